import PyProof.Rows.All
import HandS.ForMost
import HandS.ForExc
import HandS.IsInst
import HandS.Wide
import HandS.Deep
import HandS.TupAny
import HandS.Zip
import HandS.Style
import HandS.DictComp
import HandS.Small
import HandS.FStr
import HandS.Conv
import HandS.CallSlots
import HandS.TryMany
import PyProof.Rows.IntBool
import HandS.TupMul
import HandS.Flow
import KE.GoesZip
import KE.GoesMore
import KE.GoesEnum
import KE.KRevSl
import HandS.SetFor
import HandS.Set
import HandS.Defaults
import HandS.Ends
import HandS.Head0
import HandS.Head1
import HandS.Head2
import HandS.HeadEnd
import HandS.HeadHook1
import HandS.HeadHook2
import HandS.HeadHook4
import PyProof.Rows.StrCase
import PySem.Challenge.RW_copiedlengths_k01_worlds_values_and_scri
section T_RfCore
set_option Elab.async false
set_option linter.all false
set_option maxRecDepth 100000
/-! Rf: the core language, its values and what it does (plain Lean, no machine in sight) -/
namespace Rf
open PySem L2

/-- values as data; a cell is a thing that may change -/
inductive D where
  | non | bl (b : Bool) | int (i : Int) | str (s : Str)
  | tup (xs : List D) | lst (xs : List D) | dic (ks : List Key) (xs : List D) | cell (n : Nat)
  | scr (ns : List Int)

inductive Cell where
  | lst (xs : List D) | dic (ks : List Key) (xs : List D) | ins (c : Nat) (ks : List Str) (xs : List D) | dead
abbrev Mem := List Cell
abbrev Env := List (Option D)
structure Exn where
  cls : Nat
  line : Option D

/-- an expression's end -/
inductive R (α : Type) where
  | ok (a : α) (M : Mem) | er (x : Exn) (M : Mem)
abbrev Res (α : Type) := Option (R α)
def Res.bind {α β : Type} (r : Res α) (k : α → Mem → Res β) : Res β :=
  match r with
  | none => none
  | some (.ok a M) => k a M
  | some (.er x M) => some (.er x M)
def ok {α : Type} (a : α) (M : Mem) : Res α := some (.ok a M)
/-- a truth value -/
def asB (r : Res D) : Res Bool := r.bind fun x M => match x with
  | .bl b => ok b M
  | _ => none

inductive Op where
  | add | sub | mul | fdiv | mod | pow
inductive Co where
  | eq | ne | lt | le | gt | ge | inn | nin
inductive Ty where
  | int | bool | str | tuple | list
  deriving DecidableEq
inductive Bi where
  | abs | all | any | bool | int | len | list | tuple | max2 | min2 | dict | strOf | sortSet | sortStr | count | index | join | split | upper | get2 | zipL
  deriving DecidableEq

mutual
inductive CE where
  | var (i : Nat)
  | con (d : D)
  | bin (op : Op) (a b : CE)
  | neg (a : CE)
  | cmp (op : Co) (a b : CE)
  | isN (a : CE)
  | notN (a : CE)
  | chain (p q : Co) (a b c : CE)
  | and (a b : CE)
  | or (a b : CE)
  | not (a : CE)
  | notV (a : CE)
  | ite (c a b : CE)
  | tup (es : CEs)
  | lst (es : CEs)
  | lstM (es : CEs)
  | dicM (ks : List Key) (es : CEs)
  | idx (a i : CE)
  | idxD (a i : CE)
  | inD (k a : CE)
  | ninD (k a : CE)
  | slc (a : CE) (lo hi : CO)
  | rev (a : CE)
  | call (f : Nat) (es : CEs) (more : List D)
  | bi (b : Bi) (es : CEs)
  | me (b : Bi) (a : CE) (es : CEs)
  | rngL (a : CE)
  | rngL2 (a b : CE)
  | isi (a : CE) (t : Ty)
  | lc (e : CE) (tg : Tg) (it : CI)
  | lcIf (e : CE) (tg : Tg) (it : CI) (c : CE)
  | dcIfM (k e : CE) (tg : Tg) (it : CI) (c : CE)
  | fmt (a : CE)
  | fstr (es : CEs)
  | addM (a b : CE)
inductive CEs where
  | nil
  | cons (e : CE) (es : CEs)
inductive CO where
  | no
  | at (e : CE)
inductive CI where
  | seq (e : CE)
  | rng (e : CE)
  | rng2 (a b : CE)
  | enum (e : CE)
  | zip (a b : CE)
  | keys (i : Nat)
inductive Tg where
  | nm (i : Nat)
  | tp (ts : TgL)
inductive TgL where
  | nil
  | cons (t : Tg) (ts : TgL)
end

mutual
/-- no cell from n on is in it -/
def D.low (n : Nat) : D → Bool
  | .cell m => decide (m < n)
  | .tup xs => D.lows n xs
  | .lst xs => D.lows n xs
  | .dic _ xs => D.lows n xs
  | _ => true
def D.lows (n : Nat) : List D → Bool
  | [] => true
  | d :: ds => d.low n && D.lows n ds
end
mutual
/-- the same value, as it is written -/
def sameD : D → D → Bool
  | .non, .non => true
  | .bl a, .bl b => a == b
  | .int a, .int b => decide (a = b)
  | .str a, .str b => decide (a = b)
  | .tup a, .tup b => sameDs a b
  | _, _ => false
def sameDs : List D → List D → Bool
  | [], [] => true
  | a :: as, b :: bs => sameD a b && sameDs as bs
  | _, _ => false
end
mutual
theorem sameD_ok : ∀ {a b : D}, sameD a b = true → a = b
  | .non, b, h => by cases b <;> first | rfl | (cases h)
  | .bl a, b, h => by cases b <;> first | (exact congrArg D.bl (beq_iff_eq.mp h)) | (cases h)
  | .int a, b, h => by cases b <;> first | (exact congrArg D.int (of_decide_eq_true h)) | (cases h)
  | .str a, b, h => by cases b <;> first | (exact congrArg D.str (of_decide_eq_true h)) | (cases h)
  | .tup a, b, h => by cases b <;> first | (exact congrArg D.tup (sameDs_ok h)) | (cases h)
  | .lst a, b, h => by cases b <;> cases h
  | .dic _ _, b, h => by cases b <;> cases h
  | .cell _, b, h => by cases b <;> cases h
  | .scr _, b, h => by cases b <;> cases h
theorem sameDs_ok : ∀ {a b : List D}, sameDs a b = true → a = b
  | [], [], _ => rfl
  | [], _ :: _, h => by cases h
  | _ :: _, [], h => by cases h
  | x :: a, y :: b, h => by
    have h : (sameD x y && sameDs a b) = true := h
    rw [Bool.and_eq_true] at h
    rw [sameD_ok h.1, sameDs_ok h.2]
end
/-! ### what the operators do -/
def bitsOk (i : Int) : Bool := decide (i.natAbs.log2 < 500000)
def rep {α : Type} (n : Nat) (xs : List α) : List α := (List.replicate n xs).flatten
def ePow (i j : Int) : Option D := if 0 ≤ j ∧ j ≤ 1000000 ∧ i.natAbs < 2 ^ 64 then some (.int (i ^ j.toNat)) else none
def eOp (M : Mem) : Op → D → D → Option D
  | .add, .int i, .int j => some (.int (i + j))
  | .add, .str a, .str b => if a.length + b.length ≤ sizeLine then some (.str (a ++ b)) else none
  | .add, .lst a, .lst b => if a.length + b.length ≤ sizeLine then some (.lst (a ++ b)) else none
  | .add, .cell n, .lst b => match M[n]? with
    | some (.lst a) => if a.length + b.length ≤ sizeLine then some (.lst (a ++ b)) else none
    | _ => none
  | .add, .tup a, .tup b => if a.length + b.length ≤ sizeLine then some (.tup (a ++ b)) else none
  | .add, .bl a, .int j => some (.int ((if a = true then (1 : Int) else 0) + j))
  | .sub, .int i, .int j => some (.int (i - j))
  | .sub, .bl a, .int j => some (.int ((if a = true then (1 : Int) else 0) - j))
  | .mul, .int i, .int j => if bitsOk i && bitsOk j then some (.int (i * j)) else none
  | .mul, .tup a, .int k => if a ≠ [] ∧ 0 ≤ k ∧ k ≤ 1000 ∧ a.length ≤ 1000 then some (.tup (rep k.toNat a)) else none
  | .mul, .lst a, .int k => if 0 ≤ k ∧ k < 2 ^ 63 ∧ a.length * k.toNat ≤ sizeLine then some (.lst (rep k.toNat a)) else none
  | .mul, .str a, .int k => if 0 ≤ k ∧ k ≤ 1000 ∧ a.length ≤ 1000 then some (.str ⟨(rep k.toNat a.cps.toList).toArray⟩) else none
  | .fdiv, .int i, .int j => if 0 < j ∧ j.natAbs.log2 < 9000 then some (.int (i / j)) else none
  | .mod, .int i, .int j => if 0 < j then some (.int (i % j)) else none
  | .pow, .int i, .int j => ePow i j
  | _, _, _ => none
mutual
def toPy : D → Option PyData
  | .non => some .none
  | .bl b => some (.bool b)
  | .int i => some (.int i)
  | .str s => some (.str s)
  | .tup xs => (toPys xs).map .tuple
  | .lst xs => (toPys xs).map .list
  | .dic _ _ => none
  | .cell _ => none
  | .scr _ => none
def toPys : List D → Option (List PyData)
  | [] => some []
  | d :: ds => match toPy d, toPys ds with
    | some x, some xs => some (x :: xs)
    | _, _ => none
end
def eEq (a b : D) : Option Bool := match toPy a, toPy b with
  | some x, some y => if SeqAt.shaped x && SeqAt.shaped y then some (PyData.eqv x y) else none
  | _, _ => none
def flatD : D → Bool
  | .non => true
  | .bl _ => true
  | .int _ => true
  | .str _ => true
  | _ => false
def eqF : D → D → Bool
  | .non, .non => true
  | .bl a, .bl b => a == b
  | .bl a, .int b => (if a then 1 else 0) == b
  | .int a, .bl b => a == (if b then 1 else 0)
  | .int a, .int b => a == b
  | .str a, .str b => a == b
  | _, _ => false
def eIn (a : D) : D → Option Bool
  | .lst ys => match toPy a, toPys ys with
    | some x, some ys => if SeqAt.shaped x && SeqAt.shaped (.list ys) then some (ys.any fun z => PyData.eqv z x) else none
    | _, _ => none
  | .tup ys => if flatD a && ys.all flatD then some (ys.any fun y => eqF y a) else none
  | _ => none
def eCo : Co → D → D → Option Bool
  | .eq, a, b => eEq a b
  | .ne, a, b => (eEq a b).map not
  | .lt, .int i, .int j => some (decide (i < j))
  | .le, .int i, .int j => some (decide (i ≤ j))
  | .gt, .int i, .int j => some (decide (j < i))
  | .ge, .int i, .int j => some (decide (j ≤ i))
  | .inn, a, b => eIn a b
  | .nin, a, b => (eIn a b).map not
  | _, _, _ => none
def eIdx (M : Mem) : D → D → Option D
  | .lst xs, .int i => atI xs i
  | .tup xs, .int i => atI xs i
  | .cell n, .int i => match M[n]? with
    | some (.lst xs) => atI xs i
    | _ => none
  | .scr ns, .int i => (atI ns i).map .int
  | _, _ => none
def keyOf : D → Option Key
  | .int i => some (.inl i)
  | .str s => some (.inr s)
  | _ => none
def lookD (ks : List Key) (xs : List D) (k : Key) : Option D := ((ks.zip xs).find? fun p => decide (p.1 = k)).map (·.2)
def dicOf (M : Mem) : D → Option (List Key × List D)
  | .dic ks xs => some (ks, xs)
  | .cell n => match M[n]? with
    | some (.dic ks xs) => some (ks, xs)
    | _ => none
  | _ => none
def eGet (M : Mem) (a k : D) : Option (Option D) := match dicOf M a, keyOf k with
  | some (ks, xs), some k => some (lookD ks xs k)
  | _, _ => none
def cutD {α : Type} (xs : List α) (lo hi : Option Int) : List α := (xs.drop (HT.sIx xs.length 0 lo)).take (HT.sIx xs.length xs.length hi - HT.sIx xs.length 0 lo)
def eSlc : D → Option Int → Option Int → Option D
  | .lst xs, lo, hi => some (.lst (cutD xs lo hi))
  | .tup xs, lo, hi => some (.tup (cutD xs lo hi))
  | .str s, lo, hi => if s.length ≤ sizeLine then some (.str ⟨(cutD s.cps.toList lo hi).toArray⟩) else none
  | _, _, _ => none
def eRev : D → Option D
  | .lst xs => some (.lst xs.reverse)
  | .tup xs => some (.tup xs.reverse)
  | _ => none
/-- a value in an f-string -/
def eFmt : D → Option D
  | .str y => if y.length ≤ sizeLine then some (.str y) else none
  | .int i => if i.natAbs.log2 < 1920 then some (.str (toString i)) else none
  | _ => none
/-- a sum of lists that is to change -/
def eAddM (M : Mem) : D → D → Option (D × Mem)
  | .lst a, .lst b => if a.length + b.length ≤ sizeLine ∧ D.lows 0 (a ++ b) = true then some (.cell M.length, M ++ [.lst (a ++ b)]) else none
  | .cell n, .lst b => match M[n]? with
    | some (.lst a) => if a.length + b.length ≤ sizeLine ∧ D.lows 0 (a ++ b) = true then some (.cell M.length, M ++ [.lst (a ++ b)]) else none
    | _ => none
  | _, _ => none
def bools : List D → Option (List Bool)
  | [] => some []
  | .bl b :: r => (bools r).map (b :: ·)
  | _ => none
def strsOf : List D → Option (List Str)
  | [] => some []
  | .str b :: r => (strsOf r).map (b :: ·)
  | _ => none
/-- pairs (key, value) -/
def pairsOf : List D → Option (List (Key × D))
  | [] => some []
  | .tup [k, v] :: r => match keyOf k, pairsOf r with
    | some k, some l => some ((k, v) :: l)
    | _, _ => none
  | _ => none
def putD {α : Type} (ks : List Key) (xs : List α) (k : Key) (v : α) : List Key × List α :=
  if (ks.any fun j => decide (j = k)) = true then (ks, (ks.zip xs).map fun p => if p.1 = k then v else p.2) else (ks ++ [k], xs ++ [v])
def mergeD (l : List (Key × D)) : List Key × List D := l.foldl (fun a p => putD a.1 a.2 p.1 p.2) ([], [])
def isTy : Ty → D → Option Bool
  | .int, .int _ => some true
  | .int, .bl _ => some true
  | .bool, .bl _ => some true
  | .str, .str _ => some true
  | .tuple, .tup _ => some true
  | .list, .lst _ => some true
  | _, .cell _ => none
  | _, .scr _ => none
  | _, _ => some false
/-- a text in order -/
def strLe (a b : Str) : Bool := !PySem.Spec.ltCps b.cps.toList a.cps.toList
def sortS (l : List Str) : List Str := l.mergeSort strLe
def countD (l : List D) (x : D) : Option Int := (l.mapM fun y => eEq y x).map fun bs => ((bs.filter id).length : Int)
def indexD : List D → D → Option Int
  | [], _ => none
  | y :: r, x => match eEq y x with
    | some true => some 0
    | some false => (indexD r x).map (· + 1)
    | none => none
def rangeD (lo hi : Int) : List D := (List.range (hi - lo).toNat).map fun i => .int (lo + (i : Nat))
def small62 (i : Int) : Bool := decide (-(2 ^ 62) ≤ i) && decide (i < 2 ^ 62)
def zipD : List D → List D → List D
  | x :: xs, y :: ys => .tup [x, y] :: zipD xs ys
  | _, _ => []
def enumD : Nat → List D → List D
  | _, [] => []
  | n, x :: xs => .tup [.int (n : Nat), x] :: enumD (n + 1) xs
def bAbs : List D → Option D
  | [.int i] => some (.int (if i < 0 then -i else i))
  | _ => none
def bAll : List D → Option D
  | [.lst xs] => (bools xs).map fun bs => .bl (bs.all id)
  | _ => none
def bAny : List D → Option D
  | [.lst xs] => (bools xs).map fun bs => .bl (bs.any id)
  | _ => none
def bBool : List D → Option D
  | [.bl b] => some (.bl b)
  | _ => none
def bInt : List D → Option D
  | [.int i] => some (.int i)
  | [.bl b] => some (.int (if b then 1 else 0))
  | _ => none
def bLen (M : Mem) : List D → Option D
  | [.lst xs] => some (.int xs.length)
  | [.tup xs] => some (.int xs.length)
  | [.str s] => if s.length ≤ sizeLine then some (.int s.length) else none
  | [.cell n] => match M[n]? with
    | some (.lst xs) => some (.int xs.length)
    | _ => none
  | [.scr ns] => some (.int ns.length)
  | _ => none
def bList : List D → Option D
  | [.lst xs] => some (.lst xs)
  | [.tup xs] => some (.lst xs)
  | _ => none
def bTuple : List D → Option D
  | [.lst xs] => some (.tup xs)
  | [.tup xs] => some (.tup xs)
  | _ => none
def bMax2 : List D → Option D
  | [.int i, .int j] => some (.int (if j > i then j else i))
  | _ => none
def bMin2 : List D → Option D
  | [.int i, .int j] => some (.int (if j < i then j else i))
  | _ => none
def bDict : List D → Option D
  | [.lst xs] => (pairsOf xs).map fun l => .dic (mergeD l).1 (mergeD l).2
  | _ => none
def bStr : List D → Option D
  | [.str s] => some (.str s)
  | [.int i] => if i.natAbs.log2 < 1920 then some (.str (toString i)) else none
  | _ => none
def bSortStr : List D → Option D
  | [.lst xs] => match strsOf xs with
    | some l => if l.length < 64 then some (.lst ((sortS l).map .str)) else none
    | none => none
  | _ => none
def bSortSet : List D → Option D
  | [.lst xs] => match strsOf xs with
    | some l => if l.length < 64 then some (.lst ((sortS l.eraseDups).map .str)) else none
    | none => none
  | _ => none
/-- how many of a list of texts are a text -/
def bCount : List D → Option D
  | [.lst xs, .str x] => match strsOf xs with
    | some l => some (.int ((l.filter fun y => decide (y = x)).length : Nat))
    | none => none
  | _ => none
def bJoin : List D → Option D
  | [.str s, .lst xs] => match strsOf xs with
    | some l => if (l.map (·.length)).sum + l.length * s.length ≤ 16777216 then some (.str (Txt.join s l)) else none
    | none => none
  | _ => none
def bSplit : List D → Option D
  | [.str s, .str t] => if (t.length == 0) = false ∧ s.length + 2 ≤ sizeLine then some (.lst ((Txt.split s t).map .str)) else none
  | _ => none
def bUpper : List D → Option D
  | [.str s] => if s.length ≤ 5592405 then some (.str (Txt.upper s)) else none
  | _ => none
def bGet (M : Mem) : List D → Option D
  | [a, k, d] => (eGet M a k).map fun o => o.getD d
  | _ => none
def bRange1 : List D → Option D
  | [.int n] => if small62 n ∧ n ≤ 1000 then some (.lst (rangeD 0 n)) else none
  | _ => none
def bRange2 : List D → Option D
  | [.int a, .int b] => if small62 a ∧ small62 b ∧ b - a ≤ 1000 then some (.lst (rangeD a b)) else none
  | _ => none
def bZip : List D → Option D
  | [.lst a, .lst b] => some (.lst (zipD a b))
  | _ => none
def eBi (M : Mem) : Bi → List D → Option D
  | .abs => bAbs
  | .all => bAll
  | .any => bAny
  | .bool => bBool
  | .int => bInt
  | .len => bLen M
  | .list => bList
  | .tuple => bTuple
  | .max2 => bMax2
  | .min2 => bMin2
  | .dict => bDict
  | .strOf => bStr
  | .sortStr => bSortStr
  | .sortSet => bSortSet
  | .count => bCount
  | .index => fun _ => none
  | .join => bJoin
  | .split => bSplit
  | .upper => bUpper
  | .get2 => bGet M
  | .zipL => bZip

/-! ### targets -/
mutual
def asT : Tg → D → Env → Option Env
  | .nm i, d, env => some (env.set i (some d))
  | .tp ts, .tup ds, env => asTs ts ds env
  | .tp _, _, _ => none
def asTs : TgL → List D → Env → Option Env
  | .nil, [], env => some env
  | .cons t ts, d :: ds, env => match asT t d env with
    | some env' => asTs ts ds env'
    | none => none
  | _, _, _ => none
end
mutual
/-- the slots of a target -/
def Tg.slots : Tg → List Nat
  | .nm i => [i]
  | .tp ts => ts.slots
def TgL.slots : TgL → List Nat
  | .nil => []
  | .cons t ts => t.slots ++ ts.slots
end
def TgL.len : TgL → Nat
  | .nil => 0
  | .cons _ ts => ts.len + 1
def wipeE (env : Env) : List Nat → Env
  | [] => env
  | v :: vs => (wipeE env vs).set v none

abbrev Calls := Nat → List D → Mem → Res D
def lift {α : Type} (o : Option α) (M : Mem) : Res α := match o with
  | some a => some (.ok a M)
  | none => none
/-- a list comprehension over items that are known; an element that raises is not served -/
def lcL (g : D → Mem → Res (Option D)) : List D → Mem → List D → Res (List D)
  | [], M, acc => ok acc M
  | x :: xs, M, acc => match g x M with
    | some (.ok (some y) M') => lcL g xs M' (acc ++ [y])
    | some (.ok none M') => lcL g xs M' acc
    | _ => none
def dcL (g : D → Mem → Res (Option (D × D))) : List D → Mem → List Key × List D → Res (List Key × List D)
  | [], M, acc => ok acc M
  | x :: xs, M, acc => match g x M with
    | some (.ok (some (k, y)) M') => match keyOf k with
      | some k => dcL g xs M' (putD acc.1 acc.2 k y)
      | none => none
    | some (.ok none M') => dcL g xs M' acc
    | _ => none

/-- whether a value has a method -/
def recv (M : Mem) (b : Bi) (x : D) : Option Unit := match b, x with
  | .join, .str _ => some ()
  | .split, .str _ => some ()
  | .upper, .str _ => some ()
  | .count, .lst _ => some ()
  | .get2, x => (dicOf M x).map fun _ => ()
  | _, _ => none
def getV (env : Env) (i : Nat) (M : Mem) : Res D := match env[i]? with
  | some (some d) => ok d M
  | _ => none
def negI (x : D) (M : Mem) : Res D := match x with
  | .int i => ok (.int (-i)) M
  | _ => none
def isNon : D → Bool
  | .non => true
  | _ => false
def someI (x : D) (M : Mem) : Res (Option Int) := match x with
  | .int i => ok (some i) M
  | _ => none
/-- not, by truth -/
def notD : D → Option Bool
  | .bl b => some (!b)
  | .int i => some (!(i != 0))
  | _ => none
mutual
def ev (cl : Calls) : CE → Env → Mem → Res D
  | .var i, env, M => getV env i M
  | .con d, _, M => ok d M
  | .bin op a b, env, M => (ev cl a env M).bind fun x M => (ev cl b env M).bind fun y M => lift (eOp M op x y) M
  | .neg a, env, M => (ev cl a env M).bind fun x M => negI x M
  | .cmp op a b, env, M => (ev cl a env M).bind fun x M => (ev cl b env M).bind fun y M => lift ((eCo op x y).map .bl) M
  | .isN a, env, M => (ev cl a env M).bind fun x M => ok (.bl (isNon x)) M
  | .notN a, env, M => (ev cl a env M).bind fun x M => ok (.bl (!isNon x)) M
  | .chain p q a b c, env, M => (ev cl a env M).bind fun x M => (ev cl b env M).bind fun y M => (lift (eCo p x y) M).bind fun t M => if t then (ev cl c env M).bind fun z M => lift ((eCo q y z).map .bl) M else ok (.bl false) M
  | .and a b, env, M => (asB (ev cl a env M)).bind fun t M => if t then ev cl b env M else ok (.bl false) M
  | .or a b, env, M => (asB (ev cl a env M)).bind fun t M => if t then ok (.bl true) M else ev cl b env M
  | .not a, env, M => (asB (ev cl a env M)).bind fun t M => ok (.bl (!t)) M
  | .notV a, env, M => (ev cl a env M).bind fun x M => lift ((notD x).map .bl) M
  | .ite c a b, env, M => (asB (ev cl c env M)).bind fun t M => if t then ev cl a env M else ev cl b env M
  | .tup es, env, M => (evs cl es env M).bind fun xs M => if xs.length ≤ sizeLine then ok (.tup xs) M else none
  | .lst es, env, M => (evs cl es env M).bind fun xs M => if xs.length ≤ sizeLine then ok (.lst xs) M else none
  | .lstM es, env, M => (evs cl es env M).bind fun xs M => if xs.length ≤ sizeLine ∧ D.lows 0 xs = true then ok (.cell M.length) (M ++ [.lst xs]) else none
  | .dicM ks es, env, M => (evs cl es env M).bind fun xs M => if ks.length = xs.length ∧ ks.length ≤ 15 ∧ D.lows 0 xs = true then ok (.cell M.length) (M ++ [.dic (mergeD (ks.zip xs)).1 (mergeD (ks.zip xs)).2]) else none
  | .idx a i, env, M => (ev cl a env M).bind fun x M => (ev cl i env M).bind fun y M => lift (eIdx M x y) M
  | .idxD a i, env, M => (ev cl a env M).bind fun x M => (ev cl i env M).bind fun y M => lift ((eGet M x y).bind id) M
  | .inD k a, env, M => (ev cl k env M).bind fun y M => (ev cl a env M).bind fun x M => lift ((eGet M x y).map fun o => .bl o.isSome) M
  | .ninD k a, env, M => (ev cl k env M).bind fun y M => (ev cl a env M).bind fun x M => lift ((eGet M x y).map fun o => .bl (!o.isSome)) M
  | .slc a lo hi, env, M => (ev cl a env M).bind fun x M => (evO cl lo env M).bind fun l M => (evO cl hi env M).bind fun u M => lift (eSlc x l u) M
  | .rev a, env, M => (ev cl a env M).bind fun x M => lift (eRev x) M
  | .call f es more, env, M => (evs cl es env M).bind fun xs M => cl f (xs ++ more) M
  | .bi b es, env, M => (evs cl es env M).bind fun xs M => lift (eBi M b xs) M
  | .me b a es, env, M => (ev cl a env M).bind fun x M => (lift (recv M b x) M).bind fun _ M => (evs cl es env M).bind fun xs M => lift (eBi M b (x :: xs)) M
  | .rngL a, env, M => (ev cl a env M).bind fun x M => lift (bRange1 [x]) M
  | .rngL2 a b, env, M => (ev cl a env M).bind fun x M => (ev cl b env M).bind fun y M => lift (bRange2 [x, y]) M
  | .isi a t, env, M => (ev cl a env M).bind fun x M => lift ((isTy t x).map .bl) M
  | .lc e tg it, env, M => (evI cl it env M).bind fun xs M => (lcL (fun x M => match asT tg x (wipeE env tg.slots) with
      | some env' => (ev cl e env' M).bind fun y M => ok (some y) M
      | none => none) xs M []).bind fun ys M => if ys.length ≤ sizeLine then ok (.lst ys) M else none
  | .lcIf e tg it c, env, M => (evI cl it env M).bind fun xs M => (lcL (fun x M => match asT tg x (wipeE env tg.slots) with
      | some env' => (asB (ev cl c env' M)).bind fun t M => if t then (ev cl e env' M).bind fun y M => ok (some y) M else ok none M
      | none => none) xs M []).bind fun ys M => if ys.length ≤ sizeLine then ok (.lst ys) M else none
  | .dcIfM k e tg it c, env, M => (evI cl it env M).bind fun xs M => (dcL (fun x M => match asT tg x (wipeE env tg.slots) with
      | some env' => (asB (ev cl c env' M)).bind fun t M => if t then (ev cl k env' M).bind fun y M => (ev cl e env' M).bind fun z M => ok (some (y, z)) M else ok none M
      | none => none) xs M ([], [])).bind fun r M => if r.1.length ≤ sizeLine ∧ D.lows 0 r.2 = true then ok (.cell M.length) (M ++ [.dic r.1 r.2]) else none
  | .fmt a, env, M => (ev cl a env M).bind fun x M => lift (eFmt x) M
  | .fstr es, env, M => evJ cl es Str.empty env M
  | .addM a b, env, M => (ev cl a env M).bind fun x M => (ev cl b env M).bind fun y M => match eAddM M x y with
    | some (d, M) => ok d M
    | none => none
def evJ (cl : Calls) : CEs → Str → Env → Mem → Res D
  | .nil, acc, _, M => ok (.str acc) M
  | .cons e es, acc, env, M => (ev cl e env M).bind fun x M => match x with
    | .str y => if (acc ++ y).length ≤ sizeLine then evJ cl es (acc ++ y) env M else none
    | _ => none
def evs (cl : Calls) : CEs → Env → Mem → Res (List D)
  | .nil, _, M => ok [] M
  | .cons e es, env, M => (ev cl e env M).bind fun x M => (evs cl es env M).bind fun xs M => ok (x :: xs) M
def evO (cl : Calls) : CO → Env → Mem → Res (Option Int)
  | .no, _, M => ok none M
  | .at e, env, M => (ev cl e env M).bind fun x M => someI x M
/-- the items that are walked -/
def evI (cl : Calls) : CI → Env → Mem → Res (List D)
  | .seq e, env, M => (ev cl e env M).bind fun x M => match x with
    | .lst xs => ok xs M
    | .tup xs => ok xs M
    | _ => none
  | .rng e, env, M => (ev cl e env M).bind fun x M => match x with
    | .int n => if small62 n then ok (rangeD 0 n) M else none
    | _ => none
  | .rng2 a b, env, M => (ev cl a env M).bind fun x M => (ev cl b env M).bind fun y M => match x, y with
    | .int i, .int j => if small62 i && small62 j then ok (rangeD i j) M else none
    | _, _ => none
  | .enum e, env, M => (ev cl e env M).bind fun x M => match x with
    | .lst xs => ok (enumD 0 xs) M
    | _ => none
  | .zip a b, env, M => (ev cl a env M).bind fun x M => (ev cl b env M).bind fun y M => match x, y with
    | .lst xs, .lst ys => ok (zipD xs ys) M
    | .tup xs, .tup ys => ok (zipD xs ys) M
    | .tup xs, .lst ys => ok (zipD xs ys) M
    | _, _ => none
  | .keys i, env, M => match env[i]? with
    | some (some (.dic ks _)) => ok (ks.map fun k => match k with | .inl i => .int i | .inr s => .str s) M
    | _ => none
end

/-! ### statements -/
inductive Fl where
  | nx | brk | cont | ret (d : D) | exc (x : Exn)
abbrev SRes := Option (Fl × Env × Mem)

inductive CS where
  | asg (tg : Tg) (e : CE)
  | setI (o i e : CE)
  | setD (o i e : CE)
  | setDs (ts : CEs) (ks : CEs) (e : CE)
  | app (o e : CE)
  | ex (e : CE)
  | ret (e : CE)
  | retN
  | ite (c : CE) (a b : List CS)
  | whl (c : CE) (b : List CS)
  | for_ (tg : Tg) (it : CI) (b : List CS)
  | rais (c : Nat)
  | frz (i : Nat)
  | pass
  | brk
  | cont

def Res.to {α : Type} (r : Res α) (env : Env) (k : α → Mem → SRes) : SRes :=
  match r with
  | none => none
  | some (.ok a M) => k a M
  | some (.er x M) => some (.exc x, env, M)
/-- so many turns of a while at most -/
def turns (c : Env → Mem → Res D) (b : Env → Mem → SRes) : Nat → Env → Mem → SRes
  | 0, _, _ => none
  | n + 1, env, M => (asB (c env M)).to env fun t M => if t then match b env M with
      | some (.nx, e, M) => turns c b n e M
      | some (.cont, e, M) => turns c b n e M
      | some (.brk, e, M) => some (.nx, e, M)
      | r => r
    else some (.nx, env, M)
open Classical in
noncomputable def whileS (c : Env → Mem → Res D) (b : Env → Mem → SRes) (env : Env) (M : Mem) : SRes :=
  if h : ∃ n, (turns c b n env M).isSome = true then turns c b (Classical.choose h) env M else none
def forS (tg : Tg) (b : Env → Mem → SRes) : List D → Env → Mem → SRes
  | [], env, M => some (.nx, env, M)
  | x :: xs, env, M => match asT tg x env with
    | none => none
    | some env => match b env M with
      | some (.nx, e, M) => forS tg b xs e M
      | some (.cont, e, M) => forS tg b xs e M
      | some (.brk, e, M) => some (.nx, e, M)
      | r => r
def putCell (M : Mem) (n : Nat) (c : Cell) : Mem := M.set n c
def eSetI (M : Mem) : D → D → D → Option Mem
  | .cell n, .int i, v => match M[n]? with
    | some (.lst xs) => match ixN xs.length i with
      | some j => if v.low 0 then some (putCell M n (.lst (xs.set j v))) else none
      | none => none
    | _ => none
  | _, _, _ => none
def eSetD (M : Mem) : D → D → D → Option Mem
  | .cell n, k, v => match M[n]?, keyOf k with
    | some (.dic ks xs), some k => if ks.length < sizeLine ∧ v.low 0 = true then some (putCell M n (.dic (putD ks xs k v).1 (putD ks xs k v).2)) else none
    | _, _ => none
  | _, _, _ => none
def eApp (M : Mem) : D → D → Option Mem
  | .cell n, v => match M[n]? with
    | some (.lst xs) => if xs.length < sizeLine ∧ v.low 0 = true then some (putCell M n (.lst (xs ++ [v]))) else none
    | _ => none
  | _, _ => none
/-- a list that may change -/
def isLc (M : Mem) : D → Option Unit
  | .cell n => match M[n]? with
    | some (.lst _) => some ()
    | _ => none
  | _ => none
def eFrz (M : Mem) : D → Option (D × Mem)
  | .cell n => match M[n]? with
    | some (.lst xs) => some (.lst xs, putCell M n .dead)
    | some (.dic ks xs) => some (.dic ks xs, putCell M n .dead)
    | _ => none
  | _ => none
def CEs.len : CEs → Nat
  | .nil => 0
  | .cons _ es => es.len + 1
def setDsS (cl : Calls) : CEs → CEs → List D → Env → Mem → SRes
  | .cons t ts, .cons k ks, v :: vs, env, M => (ev cl t env M).to env fun o M => (ev cl k env M).to env fun i M => match eSetD M o i v with
    | some M => setDsS cl ts ks vs env M
    | none => none
  | .nil, .nil, [], env, M => some (.nx, env, M)
  | _, _, _, _, _ => none
mutual
noncomputable def ex (cl : Calls) : CS → Env → Mem → SRes
  | .asg tg e, env, M => (ev cl e env M).to env fun x M => match asT tg x env with
    | some env => some (.nx, env, M)
    | none => none
  | .setI o i e, env, M => (ev cl e env M).to env fun v M => (ev cl o env M).to env fun x M => (ev cl i env M).to env fun y M => match eSetI M x y v with
    | some M => some (.nx, env, M)
    | none => none
  | .setD o i e, env, M => (ev cl e env M).to env fun v M => (ev cl o env M).to env fun x M => (ev cl i env M).to env fun y M => match eSetD M x y v with
    | some M => some (.nx, env, M)
    | none => none
  | .setDs ts ks e, env, M => (ev cl e env M).to env fun x M => match x with
    | .tup vs => if vs.length = ts.len then setDsS cl ts ks vs env M else none
    | _ => none
  | .app o e, env, M => (ev cl o env M).to env fun x M => match isLc M x with
    | none => none
    | some _ => (ev cl e env M).to env fun v M => match eApp M x v with
      | some M => some (.nx, env, M)
      | none => none
  | .ex e, env, M => (ev cl e env M).to env fun _ M => some (.nx, env, M)
  | .ret e, env, M => (ev cl e env M).to env fun x M => some (.ret x, env, M)
  | .retN, env, M => some (.ret .non, env, M)
  | .ite c a b, env, M => (asB (ev cl c env M)).to env fun t M => if t then exs cl a env M else exs cl b env M
  | .whl c b, env, M => whileS (ev cl c) (exs cl b) env M
  | .for_ tg it b, env, M => (evI cl it env M).to env fun xs M => forS tg (exs cl b) xs env M
  | .rais c, env, M => some (.exc ⟨c, none⟩, env, M)
  | .frz i, env, M => match env[i]? with
    | some (some d) => match eFrz M d with
      | some (d', M') => some (.nx, env.set i (some d'), M')
      | none => none
    | _ => none
  | .pass, env, M => some (.nx, env, M)
  | .brk, env, M => some (.brk, env, M)
  | .cont, env, M => some (.cont, env, M)
noncomputable def exs (cl : Calls) : List CS → Env → Mem → SRes
  | [], env, M => some (.nx, env, M)
  | s :: r, env, M => match ex cl s env M with
    | some (.nx, env, M) => exs cl r env M
    | r => r
end

/-! ### defs -/
structure Fd where
  arity : Nat
  slots : Nat
  body : List CS
def leave (n : Nat) (d : D) (M : Mem) : Res D := if d.low n then ok d (M.take n) else ok d M
def Exn.low (n : Nat) (x : Exn) : Bool := match x.line with
  | none => true
  | some d => d.low n
noncomputable def runF (cl : Calls) (fd : Fd) (args : List D) (M : Mem) : Res D :=
  if args.length = fd.arity then
    match exs cl fd.body (args.map some ++ List.replicate (fd.slots - args.length) none) M with
    | some (.ret d, _, M') => leave M.length d M'
    | some (.nx, _, M') => leave M.length .non M'
    | some (.exc x, _, M') => if x.low M.length then some (.er x (M'.take M.length)) else none
    | _ => none
  else none
abbrev Tab := Nat → Option Fd
noncomputable def callN (T : Tab) : Nat → Calls
  | 0 => fun _ _ _ => none
  | n + 1 => fun f args M => match T f with
    | some fd => runF (callN T n) fd args M
    | none => none

end Rf
end T_RfCore
section T_RfRel
set_option Elab.async false
set_option linter.all false
set_option maxRecDepth 100000
set_option maxHeartbeats 1000000
/-! Rf: data in the heap -/
namespace Rf
open PySem PySem.Spec PyProof.Rows L2
abbrev Ph := Nat → Option Addr
/-- a tuple that is known to the frozen part, or stands in the written part -/
def TupAt (K : PySem.W.Frag) (F : Hp) (a : Addr) (xs : List V) : Prop :=
  F a = some (.tup xs) ∨ ∃ (o : Obj) (its : Array Value) (n : Nat), K.lookup a = some o ∧ o.cls = .type "tuple" ∧ o.data = .seq its n ∧ its.size ≤ sizeLine ∧ Vals xs its.toList
mutual
inductive Rel (K : PySem.W.Frag) (ph : Ph) (F : Hp) : V → D → Prop
  | non : Rel K ph F .non .non
  | bl (b : Bool) : Rel K ph F (.bl b) (.bl b)
  | int (i : Int) : Rel K ph F (.int i) (.int i)
  | str (s : Str) : Rel K ph F (.str s) (.str s)
  | lst {a : Addr} {xs : List V} {ds : List D} : F a = some (.lst xs) → Rels K ph F xs ds → Rel K ph F (.ref a) (.lst ds)
  | tup {a : Addr} {xs : List V} {ds : List D} : TupAt K F a xs → Rels K ph F xs ds → Rel K ph F (.ref a) (.tup ds)
  | dic {a : Addr} {ks : List Key} {xs : List V} {ds : List D} : Rd F a (.dK (ks.zip xs)) → ks.length = xs.length → Rels K ph F xs ds → Rel K ph F (.ref a) (.dic ks ds)
  | cell {n : Nat} {a : Addr} : ph n = some a → Rel K ph F (.ref a) (.cell n)
  | scr {a : Addr} {ns : List Int} : SqL K F a (ns.map V.int) → Rel K ph F (.ref a) (.scr ns)
inductive Rels (K : PySem.W.Frag) (ph : Ph) (F : Hp) : List V → List D → Prop
  | nil : Rels K ph F [] []
  | cons {v : V} {d : D} {vs : List V} {ds : List D} : Rel K ph F v d → Rels K ph F vs ds → Rels K ph F (v :: vs) (d :: ds)
end
structure Le (ph : Ph) (F : Hp) (ph' : Ph) (F' : Hp) : Prop where
  ph : ∀ n a, ph n = some a → ph' n = some a
  lst : ∀ a xs, F a = some (.lst xs) → F' a = some (.lst xs)
  tup : ∀ a xs, F a = some (.tup xs) → F' a = some (.tup xs)
  dk : ∀ a kvs, Rd F a (.dK kvs) → Rd F' a (.dK kvs)
  fz : ∀ a o xs, F a = some (.frz o (.lst xs)) → F' a = some (.frz o (.lst xs))
theorem Le.refl (ph : Ph) (F : Hp) : Le ph F ph F := ⟨fun _ _ h => h, fun _ _ h => h, fun _ _ h => h, fun _ _ h => h, fun _ _ _ h => h⟩
theorem Le.trans {p1 p2 p3 : Ph} {F1 F2 F3 : Hp} (a : Le p1 F1 p2 F2) (b : Le p2 F2 p3 F3) : Le p1 F1 p3 F3 :=
  ⟨fun n x h => b.ph n x (a.ph n x h), fun n x h => b.lst n x (a.lst n x h), fun n x h => b.tup n x (a.tup n x h), fun n x h => b.dk n x (a.dk n x h), fun n x y h => b.fz n x y (a.fz n x y h)⟩
theorem TupAt.mono {K : PySem.W.Frag} {p p' : Ph} {F F' : Hp} (l : Le p F p' F') {a : Addr} {xs : List V} (h : TupAt K F a xs) : TupAt K F' a xs :=
  h.elim (fun h => .inl (l.tup a xs h)) .inr
theorem Le.sq {K : PySem.W.Frag} {p p' : Ph} {F F' : Hp} (l : Le p F p' F') {a : Addr} {xs : List V} (h : SqL K F a xs) : SqL K F' a xs := by
  rcases h with (h | ⟨o, h⟩) | h
  · exact .inl (.inl (l.lst _ _ h))
  · exact .inl (.inr ⟨o, l.fz _ _ _ h⟩)
  · exact .inr h
mutual
theorem Rel.mono {K : PySem.W.Frag} {p p' : Ph} {F F' : Hp} (l : Le p F p' F') : ∀ {v : V} {d : D}, Rel K p F v d → Rel K p' F' v d
  | _, _, .non => .non
  | _, _, .bl b => .bl b
  | _, _, .int i => .int i
  | _, _, .str s => .str s
  | _, _, .lst h r => .lst (l.lst _ _ h) (Rels.mono l r)
  | _, _, .tup h r => .tup (h.mono l) (Rels.mono l r)
  | _, _, .dic h e r => .dic (l.dk _ _ h) e (Rels.mono l r)
  | _, _, .cell h => .cell (l.ph _ _ h)
  | _, _, .scr h => .scr (l.sq h)
theorem Rels.mono {K : PySem.W.Frag} {p p' : Ph} {F F' : Hp} (l : Le p F p' F') : ∀ {v : List V} {d : List D}, Rels K p F v d → Rels K p' F' v d
  | _, _, .nil => .nil
  | _, _, .cons h r => .cons (Rel.mono l h) (Rels.mono l r)
end
section
variable {K : PySem.W.Frag} {p : Ph} {F : Hp}
theorem Rels.length : ∀ {vs : List V} {ds : List D}, Rels K p F vs ds → vs.length = ds.length
  | _, _, .nil => rfl
  | _, _, .cons _ r => by rw [List.length_cons, List.length_cons, Rels.length r]
theorem Rels.get : ∀ {vs : List V} {ds : List D} {i : Nat} {d : D}, Rels K p F vs ds → ds[i]? = some d → ∃ v, vs[i]? = some v ∧ Rel K p F v d
  | _, _, _, _, .nil, e => by simp at e
  | _, _, 0, _, .cons h _, e => by simp at e; subst e; exact ⟨_, rfl, h⟩
  | _, _, i + 1, d, .cons _ r, e => by
    obtain ⟨v, h1, h2⟩ := Rels.get (i := i) (d := d) r (by simpa using e)
    exact ⟨v, by simpa using h1, h2⟩
theorem Rels.getV : ∀ {vs : List V} {ds : List D} {i : Nat} {v : V}, Rels K p F vs ds → vs[i]? = some v → ∃ d, ds[i]? = some d ∧ Rel K p F v d
  | _, _, _, _, .nil, e => by simp at e
  | _, _, 0, _, .cons h _, e => by simp at e; subst e; exact ⟨_, rfl, h⟩
  | _, _, i + 1, v, .cons _ r, e => by
    obtain ⟨d, h1, h2⟩ := Rels.getV (i := i) (v := v) r (by simpa using e)
    exact ⟨d, by simpa using h1, h2⟩
theorem Rels.append : ∀ {vs ws : List V} {ds es : List D}, Rels K p F vs ds → Rels K p F ws es → Rels K p F (vs ++ ws) (ds ++ es)
  | _, _, _, _, .nil, s => s
  | _, _, _, _, .cons h r, s => .cons h (Rels.append r s)
theorem Rels.take (n : Nat) : ∀ {vs : List V} {ds : List D}, Rels K p F vs ds → Rels K p F (vs.take n) (ds.take n)
  | _, _, .nil => by simp; exact .nil
  | _, _, .cons h r => by
    cases n with
    | zero => exact .nil
    | succ n => exact .cons h (Rels.take n r)
theorem Rels.drop (n : Nat) : ∀ {vs : List V} {ds : List D}, Rels K p F vs ds → Rels K p F (vs.drop n) (ds.drop n)
  | _, _, .nil => by simp; exact .nil
  | _, _, .cons h r => by
    cases n with
    | zero => exact .cons h r
    | succ n => exact Rels.drop n r
theorem Rels.reverse : ∀ {vs : List V} {ds : List D}, Rels K p F vs ds → Rels K p F vs.reverse ds.reverse
  | _, _, .nil => .nil
  | _, _, .cons h r => by
    rw [List.reverse_cons, List.reverse_cons]
    exact Rels.append (Rels.reverse r) (.cons h .nil)
theorem Rels.set {v : V} {d : D} (h : Rel K p F v d) : ∀ {vs : List V} {ds : List D} (i : Nat), Rels K p F vs ds → Rels K p F (vs.set i v) (ds.set i d)
  | _, _, _, .nil => by simp; exact .nil
  | _, _, 0, .cons _ r => .cons h r
  | _, _, i + 1, .cons g r => .cons g (Rels.set h i r)
theorem Rels.rep {vs : List V} {ds : List D} (r : Rels K p F vs ds) : ∀ n : Nat, Rels K p F (List.replicate n vs).flatten (rep n ds)
  | 0 => .nil
  | n + 1 => by
    unfold Rf.rep
    rw [List.replicate_succ, List.replicate_succ, List.flatten_cons, List.flatten_cons]
    exact Rels.append r (Rels.rep r n)
end

/-- a cell's thing in the heap -/
def CellOk (K : PySem.W.Frag) (p : Ph) (F H : Hp) (a : Addr) : Cell → Prop
  | .lst ds => ∃ xs, H a = some (.lst xs) ∧ Rels K p F xs ds ∧ D.lows 0 ds = true
  | .dic ks ds => ∃ xs, H a = some (.dK (ks.zip xs)) ∧ ks.length = xs.length ∧ Rels K p F xs ds ∧ D.lows 0 ds = true
  | .ins _ _ _ => False
  | .dead => True
structure RM (K : PySem.W.Frag) (p : Ph) (F : Hp) (M : Mem) (H : Hp) : Prop where
  fro : ∀ a o, F a = some o → H a = some o
  dom : ∀ n, n < M.length ↔ ∃ a, p n = some a
  inj : ∀ n m a, p n = some a → p m = some a → n = m
  liv : ∀ n a, p n = some a → H a ≠ none
  cell : ∀ n a c, p n = some a → M[n]? = some c → c ≠ .dead → F a = none ∧ CellOk K p F H a c
/-- what happens to a heap -/
structure Step (p : Ph) (F H : Hp) (p' : Ph) (F' H' : Hp) : Prop extends Le p F p' F' where
  keep : ∀ a o, H a = some o → (∀ n, p n ≠ some a) → H' a = some o
  there : ∀ a, H' a = none → H a = none
  new : ∀ n a, p' n = some a → p n = some a ∨ H a = none
  fnew : ∀ a o, F' a = some o → F a = some o ∨ H a = none ∨ ∃ n, p n = some a
theorem Step.refl (p : Ph) (F H : Hp) : Step p F H p F H := ⟨Le.refl p F, fun _ _ h _ => h, fun _ h => h, fun _ _ h => .inl h, fun _ _ h => .inl h⟩
theorem Step.trans {p1 p2 p3 : Ph} {F1 F2 F3 H1 H2 H3 : Hp} (a : Step p1 F1 H1 p2 F2 H2) (b : Step p2 F2 H2 p3 F3 H3) : Step p1 F1 H1 p3 F3 H3 where
  toLe := a.toLe.trans b.toLe
  keep := fun x o h hn => b.keep x o (a.keep x o h hn) fun n e => by
    rcases a.new n x e with h1 | h1
    · exact hn n h1
    · rw [h1] at h; cases h
  there := fun x h => a.there x (b.there x h)
  new := fun n x h => by
    rcases b.new n x h with h | h
    · exact a.new n x h
    · exact .inr (a.there x h)
  fnew := fun x o h => by
    rcases b.fnew x o h with h | h | ⟨n, h⟩
    · exact a.fnew x o h
    · exact .inr (.inl (a.there x h))
    · rcases a.new n x h with h | h
      · exact .inr (.inr ⟨n, h⟩)
      · exact .inr (.inl h)
section
variable {K : PySem.W.Frag} {p : Ph} {F H : Hp} {M : Mem}
theorem RM.free (r : RM K p F M H) {a : Addr} (h : H a = none) : F a = none := by
  cases e : F a with
  | none => rfl
  | some o => rw [r.fro a o e] at h; cases h
theorem CellOk.keep {p' : Ph} {F' H' : Hp} {a : Addr} {c : Cell} (l : Le p F p' F') (h : CellOk K p F H a c) (e : H' a = H a) : CellOk K p' F' H' a c := by
  cases c with
  | lst ds => obtain ⟨xs, h1, h2, h3⟩ := h; exact ⟨xs, by rw [e]; exact h1, h2.mono l, h3⟩
  | dic ks ds => obtain ⟨xs, h1, h0, h2, h3⟩ := h; exact ⟨xs, by rw [e]; exact h1, h0, h2.mono l, h3⟩
  | ins _ _ _ => exact h
  | dead => trivial
theorem upd_free {H : Hp} {a b : Addr} {o : HO} (h : H a ≠ none) (hb : H b = none) : upd H b o a = H a := upd_ne fun e => h (by rw [e]; exact hb)
theorem upd_none {H : Hp} {a b : Addr} {o : HO} (h : upd H b o a = none) : H a = none := by
  unfold upd at h
  split at h
  · cases h
  · exact h
/-- a new frozen thing -/
theorem le_new {o : HO} {q : Addr} (h : F q = none) : Le p F p (upd F q o) where
  ph := fun _ _ h => h
  lst := fun a xs e => by rw [upd_free (by rw [e]; simp) h]; exact e
  tup := fun a xs e => by rw [upd_free (by rw [e]; simp) h]; exact e
  dk := fun a kvs e => by
    rcases e with e | ⟨u, e⟩
    · exact .inl (by rw [upd_free (by rw [e]; simp) h]; exact e)
    · exact .inr ⟨u, by rw [upd_free (by rw [e]; simp) h]; exact e⟩
  fz := fun a u xs e => by rw [upd_free (by rw [e]; simp) h]; exact e
theorem step_new {o : HO} {q : Addr} (r : RM K p F M H) (h : H q = none) : Step p F H p (upd F q o) (upd H q o) where
  toLe := le_new (r.free h)
  keep := fun a u e _ => by rw [upd_free (by rw [e]; simp) h]; exact e
  there := fun a e => upd_none e
  new := fun _ _ e => .inl e
  fnew := fun a u e => by
    by_cases hq : a = q
    · subst hq; exact .inr (.inl h)
    · rw [upd_ne hq] at e; exact .inl e
theorem CellOk.some {a : Addr} {c : Cell} (h : CellOk K p F H a c) (hc : c ≠ .dead) : H a ≠ none := by
  cases c with
  | lst ds => obtain ⟨xs, h1, _⟩ := h; rw [h1]; simp
  | dic ks ds => obtain ⟨xs, h1, _⟩ := h; rw [h1]; simp
  | ins _ _ _ => exact h.elim
  | dead => exact absurd rfl hc
theorem rm_new {o : HO} {q : Addr} (r : RM K p F M H) (h : H q = none) : RM K p (upd F q o) M (upd H q o) where
  fro := fun a u e => by
    by_cases hq : a = q
    · subst hq; rw [upd_same] at e ⊢; exact e
    · rw [upd_ne hq] at e ⊢; exact r.fro a u e
  dom := r.dom
  inj := r.inj
  liv := fun n a e => by rw [upd_free (r.liv n a e) h]; exact r.liv n a e
  cell := fun n a c e1 e2 hc => by
    obtain ⟨h1, h2⟩ := r.cell n a c e1 e2 hc
    have hn := h2.some hc
    have hq : a ≠ q := fun e => hn (by rw [e]; exact h)
    exact ⟨by rw [upd_ne hq]; exact h1, h2.keep (le_new (r.free h)) (upd_ne hq)⟩
/-- a new cell -/
def phNew (p : Ph) (n : Nat) (q : Addr) : Ph := fun m => if m = n then some q else p m
theorem phNew_same {n : Nat} {q : Addr} : phNew p n q n = some q := by unfold phNew; rw [if_pos rfl]
theorem phNew_ne {n m : Nat} {q : Addr} (h : m ≠ n) : phNew p n q m = p m := by unfold phNew; rw [if_neg h]
theorem RM.above (r : RM K p F M H) : p M.length = none := by
  cases e : p M.length with
  | none => rfl
  | some a => exact absurd ((r.dom M.length).mpr ⟨a, e⟩) (Nat.lt_irrefl _)
theorem le_cell {q : Addr} (r : RM K p F M H) : Le p F (phNew p M.length q) F where
  ph := fun n a e => by rw [phNew_ne (fun h => by rw [h, r.above] at e; cases e)]; exact e
  lst := fun _ _ h => h
  tup := fun _ _ h => h
  dk := fun _ _ h => h
  fz := fun _ _ _ h => h
theorem step_cell {o : HO} {q : Addr} (r : RM K p F M H) (h : H q = none) : Step p F H (phNew p M.length q) F (upd H q o) where
  toLe := le_cell r
  keep := fun a u e _ => by rw [upd_free (by rw [e]; simp) h]; exact e
  there := fun a e => upd_none e
  new := fun n a e => by
    by_cases hn : n = M.length
    · subst hn; rw [phNew_same] at e; cases e; exact .inr h
    · rw [phNew_ne hn] at e; exact .inl e
  fnew := fun _ _ e => .inl e
theorem rm_cell {o : HO} {q : Addr} {c : Cell} (r : RM K p F M H) (h : H q = none) (hc : CellOk K (phNew p M.length q) F (upd H q o) q c) : RM K (phNew p M.length q) F (M ++ [c]) (upd H q o) where
  fro := fun a u e => by rw [upd_free (by rw [r.fro a u e]; simp) h]; exact r.fro a u e
  dom := fun n => by
    rw [List.length_append, List.length_singleton]
    by_cases hn : n = M.length
    · subst hn; rw [phNew_same]; exact ⟨fun _ => ⟨q, rfl⟩, fun _ => Nat.lt_succ_self _⟩
    · rw [phNew_ne hn, ← r.dom n]; omega
  inj := fun n m a e1 e2 => by
    by_cases hn : n = M.length
    · by_cases hm : m = M.length
      · rw [hn, hm]
      · subst hn; rw [phNew_same] at e1; cases e1
        rw [phNew_ne hm] at e2
        exact absurd h (r.liv m _ e2)
    · rw [phNew_ne hn] at e1
      by_cases hm : m = M.length
      · subst hm; rw [phNew_same] at e2; cases e2
        exact absurd h (r.liv n _ e1)
      · rw [phNew_ne hm] at e2; exact r.inj n m a e1 e2
  liv := fun n a e => by
    by_cases hn : n = M.length
    · subst hn; rw [phNew_same] at e; cases e; rw [upd_same]; simp
    · rw [phNew_ne hn] at e; rw [upd_free (r.liv n a e) h]; exact r.liv n a e
  cell := fun n a d e1 e2 hd => by
    by_cases hn : n = M.length
    · subst hn
      rw [phNew_same] at e1; cases e1
      rw [List.getElem?_append_right (Nat.le_refl _), Nat.sub_self] at e2
      cases e2
      exact ⟨r.free h, hc⟩
    · rw [phNew_ne hn] at e1
      have hlt : n < M.length := (r.dom n).mpr ⟨a, e1⟩
      rw [List.getElem?_append_left hlt] at e2
      obtain ⟨h1, h2⟩ := r.cell n a d e1 e2 hd
      exact ⟨h1, h2.keep (le_cell r) (upd_free (r.liv n a e1) h)⟩
/-- a cell is written -/
theorem step_set {o : HO} {n : Nat} {a : Addr} (r : RM K p F M H) (e : p n = some a) : Step p F H p F (upd H a o) where
  toLe := Le.refl p F
  keep := fun b u h hn => by rw [upd_ne (fun z => hn n (by rw [z]; exact e))]; exact h
  there := fun b h => upd_none h
  new := fun _ _ h => .inl h
  fnew := fun _ _ e => .inl e
theorem rm_set {o : HO} {n : Nat} {a : Addr} {c d : Cell} (r : RM K p F M H) (e : p n = some a) (e2 : M[n]? = some c) (hc : c ≠ .dead) (hd : CellOk K p F (upd H a o) a d) : RM K p F (M.set n d) (upd H a o) where
  fro := fun b u h => by
    have hb : b ≠ a := fun z => by rw [z, (r.cell n a c e e2 hc).1] at h; cases h
    rw [upd_ne hb]; exact r.fro b u h
  dom := fun m => by rw [List.length_set]; exact r.dom m
  inj := r.inj
  liv := fun m b h => by
    by_cases hb : b = a
    · subst hb; rw [upd_same]; simp
    · rw [upd_ne hb]; exact r.liv m b h
  cell := fun m b x h1 h2 hx => by
    by_cases hm : m = n
    · subst hm
      rw [e] at h1; cases h1
      have hlt : m < M.length := (r.dom m).mpr ⟨_, e⟩
      rw [List.getElem?_set_self hlt] at h2
      cases h2
      exact ⟨(r.cell m a c e e2 hc).1, hd⟩
    · rw [List.getElem?_set_ne (Ne.symm hm)] at h2
      obtain ⟨q1, q2⟩ := r.cell m b x h1 h2 hx
      have hb : b ≠ a := fun z => hm (r.inj m n a (by rw [← z]; exact h1) e)
      exact ⟨q1, q2.keep (Le.refl p F) (upd_ne hb)⟩
/-- a cell is frozen: nothing happens in the heap -/
theorem step_frz {n : Nat} {a : Addr} {c : Cell} {o : HO} (r : RM K p F M H) (e : p n = some a) (e2 : M[n]? = some c) (hc : c ≠ .dead) : Step p F H p (upd F a o) H where
  toLe := le_new (r.cell n a c e e2 hc).1
  keep := fun _ _ h _ => h
  there := fun _ h => h
  new := fun _ _ h => .inl h
  fnew := fun b u h => by
    by_cases hb : b = a
    · subst hb; exact .inr (.inr ⟨n, e⟩)
    · rw [upd_ne hb] at h; exact .inl h
theorem rm_frz {n : Nat} {a : Addr} {c : Cell} {o : HO} (r : RM K p F M H) (e : p n = some a) (e2 : M[n]? = some c) (hc : c ≠ .dead) (ho : H a = some o) : RM K p (upd F a o) (M.set n .dead) H where
  fro := fun b u h => by
    by_cases hb : b = a
    · subst hb; rw [upd_same] at h; cases h; exact ho
    · rw [upd_ne hb] at h; exact r.fro b u h
  dom := fun m => by rw [List.length_set]; exact r.dom m
  inj := r.inj
  liv := r.liv
  cell := fun m b x h1 h2 hx => by
    have hlt : n < M.length := (r.dom n).mpr ⟨_, e⟩
    by_cases hm : m = n
    · subst hm
      rw [List.getElem?_set_self hlt] at h2
      cases h2
      exact absurd rfl hx
    · rw [List.getElem?_set_ne (Ne.symm hm)] at h2
      obtain ⟨q1, q2⟩ := r.cell m b x h1 h2 hx
      have hb : b ≠ a := fun z => hm (r.inj m n a (by rw [← z]; exact h1) e)
      exact ⟨by rw [upd_ne hb]; exact q1, q2.keep (le_new (r.cell n a c e e2 hc).1) rfl⟩
end
/-! ### a def's end: the cells that it made are forgotten -/
def phCut (p : Ph) (n : Nat) : Ph := fun m => if m < n then p m else none
theorem lows_cons {n : Nat} {d : D} {ds : List D} : D.lows n (d :: ds) = true ↔ d.low n = true ∧ D.lows n ds = true := by simp [D.lows, Bool.and_eq_true]
mutual
theorem D.low_mono {n m : Nat} (h : n ≤ m) : ∀ d : D, d.low n = true → d.low m = true
  | .non, _ => rfl
  | .bl _, _ => rfl
  | .int _, _ => rfl
  | .str _, _ => rfl
  | .scr _, _ => rfl
  | .cell k, l => decide_eq_true (Nat.lt_of_lt_of_le (of_decide_eq_true (show decide (k < n) = true from l)) h)
  | .tup xs, l => D.lows_mono h xs l
  | .lst xs, l => D.lows_mono h xs l
  | .dic _ xs, l => D.lows_mono h xs l
theorem D.lows_mono {n m : Nat} (h : n ≤ m) : ∀ d : List D, D.lows n d = true → D.lows m d = true
  | [], _ => rfl
  | d :: ds, l => lows_cons.mpr ⟨D.low_mono h d (lows_cons.mp l).1, D.lows_mono h ds (lows_cons.mp l).2⟩
end
section
variable {K : PySem.W.Frag} {p q : Ph} {F H : Hp} {M : Mem}
mutual
/-- where the cells below n stand alike -/
theorem Rel.same {n : Nat} (e : ∀ m a, m < n → p m = some a → q m = some a) : ∀ {v : V} {d : D}, Rel K p F v d → d.low n = true → Rel K q F v d
  | _, _, .non, _ => .non
  | _, _, .bl b, _ => .bl b
  | _, _, .int i, _ => .int i
  | _, _, .str s, _ => .str s
  | _, _, .lst h r, l => .lst h (Rels.same e r l)
  | _, _, .tup h r, l => .tup h (Rels.same e r l)
  | _, _, .dic h z r, l => .dic h z (Rels.same e r l)
  | _, .cell m, .cell h, l => .cell (e m _ (of_decide_eq_true (show decide (m < n) = true from l)) h)
  | _, _, .scr h, _ => .scr h
theorem Rels.same {n : Nat} (e : ∀ m a, m < n → p m = some a → q m = some a) : ∀ {v : List V} {d : List D}, Rels K p F v d → D.lows n d = true → Rels K q F v d
  | _, _, .nil, _ => .nil
  | _, _, .cons h r, l => .cons (Rel.same e h (lows_cons.mp l).1) (Rels.same e r (lows_cons.mp l).2)
end
theorem Rels.pure {vs : List V} {ds : List D} (r : Rels K p F vs ds) (l : D.lows 0 ds = true) : Rels K q F vs ds := r.same (fun _ _ h => absurd h (Nat.not_lt_zero _)) l
theorem Rel.pure {v : V} {d : D} (r : Rel K p F v d) (l : d.low 0 = true) : Rel K q F v d := r.same (fun _ _ h => absurd h (Nat.not_lt_zero _)) l
theorem CellOk.pure {a : Addr} {c : Cell} (h : CellOk K p F H a c) : CellOk K q F H a c := by
  cases c with
  | lst ds => obtain ⟨xs, h1, h2, h3⟩ := h; exact ⟨xs, h1, h2.pure h3, h3⟩
  | dic ks ds => obtain ⟨xs, h1, h0, h2, h3⟩ := h; exact ⟨xs, h1, h0, h2.pure h3, h3⟩
  | ins _ _ _ => exact h
  | dead => trivial
/-- p' as p, below n -/
theorem rm_cut {n : Nat} {p0 : Ph} (r : RM K p F M H) (d0 : ∀ m, m < n ↔ ∃ a, p0 m = some a) (e : ∀ m a, p0 m = some a → p m = some a) : RM K p0 F (M.take n) H where
  fro := r.fro
  dom := fun m => by
    rw [List.length_take, ← d0 m]
    constructor
    · intro h; omega
    · intro h
      obtain ⟨a, ha⟩ := (d0 m).mp h
      have := (r.dom m).mpr ⟨a, e m a ha⟩
      omega
  inj := fun m k a h1 h2 => r.inj m k a (e m a h1) (e k a h2)
  liv := fun m a h => r.liv m a (e m a h)
  cell := fun m a c h1 h2 hc => by
    have hm : m < n := (d0 m).mpr ⟨a, h1⟩
    rw [List.getElem?_take_of_lt hm] at h2
    obtain ⟨q1, q2⟩ := r.cell m a c (e m a h1) h2 hc
    exact ⟨q1, q2.pure⟩
end
end Rf
end T_RfRel
section T_RfOp
set_option Elab.async false
set_option linter.all false
set_option maxRecDepth 100000
set_option maxHeartbeats 2000000
/-! Rf: operators by data -/
namespace Rf
open PySem PySem.Spec PyProof.Rows L2
section
variable {X : Cx} {p : Ph} {F H : Hp} {M : Mem}
/-- an operator's reading by data: it ends well, and changes nothing that stands -/
def rB (K : PySem.W.Frag) (g : Mem → D → D → Option D) : R2 := fun x y H Q => ∃ p F M d e r, RM K p F M H ∧ Rel K p F x d ∧ Rel K p F y e ∧ g M d e = some r ∧
  ∀ p' F' H' v, Step p F H p' F' H' → RM K p' F' M H' → Rel K p' F' v r → Q v H'
def rA (K : PySem.W.Frag) (g : Mem → List D → Option D) : List V → Hp → VK → Prop := fun xs H Q => ∃ p F M ds r, RM K p F M H ∧ Rels K p F xs ds ∧ g M ds = some r ∧
  ∀ p' F' H' v, Step p F H p' F' H' → RM K p' F' M H' → Rel K p' F' v r → Q v H'
theorem TupAt.sq {K : PySem.W.Frag} {a : Addr} {xs : List V} (r : RM K p F M H) (h : TupAt K F a xs) : SqT K H a xs := by
  rcases h with h | h
  · exact .inl (.inl (r.fro _ _ h))
  · exact .inr h
theorem RM.sqs {K : PySem.W.Frag} {a : Addr} {xs : List V} (r : RM K p F M H) (h : SqL K F a xs) : SqL K H a xs := by
  rcases h with (h | ⟨o, h⟩) | h
  · exact .inl (.inl (r.fro _ _ h))
  · exact .inl (.inr ⟨o, r.fro _ _ h⟩)
  · exact .inr h
theorem RM.rdk {K : PySem.W.Frag} {a : Addr} {kvs : List (Key × V)} (r : RM K p F M H) (h : Rd F a (.dK kvs)) : Rd H a (.dK kvs) := by
  rcases h with h | ⟨o, h⟩
  · exact .inl (r.fro _ _ h)
  · exact .inr ⟨o, r.fro _ _ h⟩
/-- a new frozen list, tuple -/
theorem new_lst {K : PySem.W.Frag} {xs : List V} {ds : List D} {q : Addr} {Q : VK} (r : RM K p F M H) (h : H q = none) (rel : Rels K p F xs ds)
    (k : ∀ p' F' H' v, Step p F H p' F' H' → RM K p' F' M H' → Rel K p' F' v (.lst ds) → Q v H') : Q (.ref q) (upd H q (.lst xs)) :=
  k p (upd F q (.lst xs)) _ _ (step_new r h) (rm_new r h) (.lst upd_same (rel.mono (le_new (r.free h))))
theorem new_tup {K : PySem.W.Frag} {xs : List V} {ds : List D} {q : Addr} {Q : VK} (r : RM K p F M H) (h : H q = none) (rel : Rels K p F xs ds)
    (k : ∀ p' F' H' v, Step p F H p' F' H' → RM K p' F' M H' → Rel K p' F' v (.tup ds) → Q v H') : Q (.ref q) (upd H q (.tup xs)) :=
  k p (upd F q (.tup xs)) _ _ (step_new r h) (rm_new r h) (.tup (.inl upd_same) (rel.mono (le_new (r.free h))))
theorem log2_le {i : Int} (h : bitsOk i = true) : i.natAbs.log2 < 500000 := of_decide_eq_true h

theorem op_addD : OpR X (binaryOp .Add) (rB X.K fun M => eOp M .add) := by
  intro pins s σ H x y v u Q I rx ry h
  obtain ⟨p, F, M, d, e, r, rm, r1, r2, he, q⟩ := h
  cases r1 <;> cases r2 <;> first | (cases he; done) | skip
  case int.int =>
    cases he
    exact op_add pins s σ H _ _ v u Q I rx ry ⟨_, _, rfl, rfl, q _ _ _ _ (Step.refl ..) rm (.int _)⟩
  case bl.int =>
    cases he
    obtain ⟨t', rfl⟩ := ry
    have rx : v = .bool _ := rx
    subst rx
    exact PySem.IntBool.add_bool_int ⟨.int _, _, I.tok _, ⟨_, rfl⟩, q _ _ _ _ (Step.refl ..) rm (.int _)⟩
  case str.str a b =>
    have he : (if a.length + b.length ≤ sizeLine then some (D.str (a ++ b)) else none) = some r := he
    split at he
    · cases he
      rename_i hl
      exact op_add_str pins s σ H _ _ v u Q I rx ry ⟨_, _, rfl, rfl, hl, q _ _ _ _ (Step.refl ..) rm (.str _)⟩
    · cases he
  case lst.lst _ _ a h1 s1 _ _ b h2 s2 =>
    have he : (if a.length + b.length ≤ sizeLine then some (D.lst (a ++ b)) else none) = some r := he
    split at he
    · cases he
      rename_i hl
      exact op_cat pins s σ H _ _ v u Q I rx ry ⟨_, _, _, _, rfl, rfl, rm.fro _ _ h1, rm.fro _ _ h2, by rw [s1.length, s2.length]; exact hl, fun z hz => new_lst rm hz (s1.append s2) q⟩
    · cases he
  case tup.tup _ _ a h1 s1 _ _ b h2 s2 =>
    have he : (if a.length + b.length ≤ sizeLine then some (D.tup (a ++ b)) else none) = some r := he
    split at he
    · cases he
      rename_i hl
      refine op_catA pins s σ H _ _ v u Q I rx ry ⟨_, _, _, _, rfl, rfl, h1.sq rm, h2.sq rm, by rw [s1.length, s2.length]; exact hl, fun z => ?_, fun z1 z2 => ?_, fun z1 z2 w hw => new_tup rm hw (s1.append s2) q⟩
      · subst z; cases s1
        exact q _ _ _ _ (Step.refl ..) rm (.tup h2 s2)
      · subst z2; cases s2
        exact q _ _ _ _ (Step.refl ..) rm (.tup h1 (by rw [List.append_nil]; exact s1))
    · cases he
  case cell.lst n _ h1 _ _ b h2 s2 =>
    have he : (match M[n]? with
      | some (.lst a) => if a.length + b.length ≤ sizeLine then some (D.lst (a ++ b)) else none
      | _ => none) = some r := he
    split at he
    · rename_i a hm
      split at he
      · cases he
        rename_i hl
        obtain ⟨_, xs, e1, s1, _⟩ := rm.cell _ _ _ h1 hm (by intro z; cases z)
        exact op_cat pins s σ H _ _ v u Q I rx ry ⟨_, _, _, _, rfl, rfl, e1, rm.fro _ _ h2, by rw [s1.length, s2.length]; exact hl, fun z hz => new_lst rm hz (s1.append s2) q⟩
      · cases he
    · cases he
theorem op_subD : OpR X (binaryOp .Sub) (rB X.K fun M => eOp M .sub) := by
  intro pins s σ H x y v u Q I rx ry h
  obtain ⟨p, F, M, d, e, r, rm, r1, r2, he, q⟩ := h
  cases r1 <;> cases r2 <;> first | (cases he; done) | skip
  case int.int =>
    cases he
    exact op_sub pins s σ H _ _ v u Q I rx ry ⟨_, _, rfl, rfl, q _ _ _ _ (Step.refl ..) rm (.int _)⟩
  case bl.int =>
    cases he
    obtain ⟨t', rfl⟩ := ry
    have rx : v = .bool _ := rx
    subst rx
    exact PySem.IntBool.sub_bool_int ⟨.int _, _, I.tok _, ⟨_, rfl⟩, q _ _ _ _ (Step.refl ..) rm (.int _)⟩
theorem op_fdivD : OpR X (binaryOp .FloorDiv) (rB X.K fun M => eOp M .fdiv) := by
  intro pins s σ H x y v u Q I rx ry h
  obtain ⟨p, F, M, d, e, r, rm, r1, r2, he, q⟩ := h
  cases r1 <;> cases r2 <;> first | (cases he; done) | skip
  rename_i i j
  have he : (if 0 < j ∧ j.natAbs.log2 < 9000 then some (D.int (i / j)) else none) = some r := he
  split at he
  · cases he
    rename_i hc
    exact op_fdivW pins s σ H _ _ v u Q I rx ry ⟨_, _, rfl, rfl, hc, q _ _ _ _ (Step.refl ..) rm (.int _)⟩
  · cases he
theorem op_modD : OpR X (binaryOp .Mod) (rB X.K fun M => eOp M .mod) := by
  intro pins s σ H x y v u Q I rx ry h
  obtain ⟨p, F, M, d, e, r, rm, r1, r2, he, q⟩ := h
  cases r1 <;> cases r2 <;> first | (cases he; done) | skip
  rename_i i j
  have he : (if 0 < j then some (D.int (i % j)) else none) = some r := he
  split at he
  · cases he
    rename_i hc
    exact op_mod pins s σ H _ _ v u Q I rx ry ⟨_, _, rfl, rfl, hc, q _ _ _ _ (Step.refl ..) rm (.int _)⟩
  · cases he
theorem op_powD : OpR X (binaryOp .Pow) (rB X.K fun M => eOp M .pow) := by
  intro pins s σ H x y v u Q I rx ry h
  obtain ⟨p, F, M, d, e, r, rm, r1, r2, he, q⟩ := h
  cases r1 <;> cases r2 <;> first | (cases he; done) | skip
  rename_i i j
  have he : ePow i j = some r := he
  unfold ePow at he
  split at he
  · cases he
    rename_i hc
    exact op_pow pins s σ H _ _ v u Q I rx ry ⟨_, _, rfl, rfl, hc, q _ _ _ _ (Step.refl ..) rm (.int _)⟩
  · cases he
end
end Rf
end T_RfOp
section T_RfMul
set_option Elab.async false
set_option linter.all false
set_option maxRecDepth 100000
set_option maxHeartbeats 2000000
/-! Rf: * by data -/
namespace Rf
open PySem PySem.Spec PyProof.Rows L2
theorem tup_mul1 (l : Addr) (its : Array Value) (n : Nat) (dd : Option Addr) (sl : Array (Option Value)) (u : Tok) :
    Meets (Builtin.«tuple.__mul__» ⟨[.ref l, .int 1 u], []⟩) (fun _ R s => s.heap.get? l = some { cls := .type "tuple", dict := dd, data := .seq its n, slots := sl } ∧ R (.ok (.ret (Value.ref l))) s) :=
  .of_wp fun prog w A R s hh => by
    obtain ⟨hp, g, d, tk, os⟩ := s
    obtain ⟨e1, hh⟩ := hh
    have f1 := AutoSeq1.idx_int
    have q1 : (decide ((1 : Int) < -(2 ^ 63)) || decide ((1 : Int) ≥ 2 ^ 63)) = false := by decide
    have q2 : (its.isEmpty || (1 : Int) == 1) = true := by simp
    wp_walk using wpAny_loadPart' e1
    repeat (first
      | (refine wpAny_ite_false (decide_eq_false (by rw [q1]; exact Bool.false_ne_true)) ?_; wp_walk using wpAny_loadPart' e1)
      | (refine wpAny_ite_true (decide_eq_true q2) ?_; wp_walk using wpAny_loadPart' e1))
    exact ⟨_, rfl, hh⟩
theorem tup_mul0 (l : Addr) (its : Array Value) (n : Nat) (dd : Option Addr) (sl : Array (Option Value)) (u : Tok) (hne : its.isEmpty = false) :
    Meets (Builtin.«tuple.__mul__» ⟨[.ref l, .int 0 u], []⟩) (fun _ R s => s.heap.get? l = some { cls := .type "tuple", dict := dd, data := .seq its n, slots := sl } ∧
      R (.ok (.ret (Value.ref s.heap.objs.size))) { s with heap := s.heap.push { cls := Value.type "tuple", data := Data.seq #[] }, toks := s.toks }) :=
  .of_wp fun prog w A R s hh => by
    obtain ⟨hp, g, d, tk, os⟩ := s
    obtain ⟨e1, hh⟩ := hh
    have f1 := AutoSeq1.idx_int
    have q1 : (decide ((0 : Int) < -(2 ^ 63)) || decide ((0 : Int) ≥ 2 ^ 63)) = false := by decide
    have q2 : (its.isEmpty || (0 : Int) == 1) = false := by rw [hne]; rfl
    have q3 : (decide ((0 : Int) ≤ 0) || its.isEmpty) = true := by simp
    wp_walk using wpAny_loadPart' e1
    repeat (first
      | (refine wpAny_ite_false (decide_eq_false (by rw [q1]; exact Bool.false_ne_true)) ?_; wp_walk using wpAny_loadPart' e1)
      | (refine wpAny_ite_false (decide_eq_false (by rw [q2]; exact Bool.false_ne_true)) ?_; wp_walk using wpAny_loadPart' e1)
      | (refine wpAny_ite_true (decide_eq_true q3) ?_; wp_walk using wpAny_loadPart' e1))
    exact ⟨_, rfl, hh⟩
section
variable {X : Cx}
def rRep01 (K : PySem.W.Frag) : R2 := fun x y H Q => ∃ l k xs, x = .ref l ∧ y = .int k ∧ SqT K H l xs ∧ xs ≠ [] ∧ ((k = 1 ∧ Q (.ref l) H) ∨ (k = 0 ∧ ∀ p, H p = none → Q (.ref p) (upd H p (.tup []))))
theorem op_rep01 : OpR X (binaryOp .Mult) (rRep01 X.K) := by
  intro pins s σ H x y v u Q I rx ry h
  obtain ⟨l, k, xs, rfl, rfl, hT, hne, q⟩ := h
  cases rx
  obtain ⟨t, rfl⟩ := ry
  obtain ⟨its, rv, ⟨⟨cls, dd, data, sl⟩, ho, hc, n, hd⟩, hs⟩ := I.tuple hT
  simp only at hc hd
  subst hc hd
  have hie : its.toArray.isEmpty = false := by
    cases rv with
    | nil => exact absurd rfl hne
    | cons _ _ => rfl
  rcases q with ⟨rfl, q⟩ | ⟨rfl, q⟩
  · refine wpAny_binaryOp_repeat_ref (T := "tuple") (U := "int") (by decide) ⟨_, ho, rfl⟩ (fun s' => typeIs_int s' _ t) noFill_tuple_mul F.fills_int_mul F.slot_int_rmul repeat_tuple F.slot_int_index.lookup
      (call_meets F.slot_int_rmul (typeIs_int s _ t) F.entry_int_rmul (F.args_int_rmul_2 _ _) (int_rmul_tuple _ t l its.toArray n dd sl)
        ⟨ho, rfl, ⟨_, ho, rfl⟩, call_meets F.slot_tuple_mul ⟨_, ho, rfl⟩ F.entry_tuple_mul (F.args_tuple_mul_2 _ _) (tup_mul1 l its.toArray n dd sl t) ⟨ho, ?_⟩⟩)
    exact ⟨.ref l, H, I, rfl, q⟩
  · refine wpAny_binaryOp_repeat_ref (T := "tuple") (U := "int") (by decide) ⟨_, ho, rfl⟩ (fun s' => typeIs_int s' _ t) noFill_tuple_mul F.fills_int_mul F.slot_int_rmul repeat_tuple F.slot_int_index.lookup
      (call_meets F.slot_int_rmul (typeIs_int s _ t) F.entry_int_rmul (F.args_int_rmul_2 _ _) (int_rmul_tuple _ t l its.toArray n dd sl)
        ⟨ho, rfl, ⟨_, ho, rfl⟩, call_meets F.slot_tuple_mul ⟨_, ho, rfl⟩ F.entry_tuple_mul (F.args_tuple_mul_2 _ _) (tup_mul0 l its.toArray n dd sl t hie) ⟨ho, ?_⟩⟩)
    refine ⟨.ref s.heap.objs.size, _, I.laid (t' := s.toks) (o := .tup []) (fun b ob z => Heap.get?_push_of_some _ z) (Nat.le_refl _) ?_, rfl, q _ (I.hok.fresh (Nat.le_refl _))⟩
    exact ⟨Nat.zero_le _, [], .nil, IsTup.new _ _⟩
/-- text times a small number -/
theorem op_repS : OpR X (binaryOp .Mult) (fun x y H Q => ∃ a k, x = .str a ∧ y = .int k ∧ 0 ≤ k ∧ k ≤ 1000 ∧ a.length ≤ 1000 ∧ Q (.str ⟨(Rf.rep k.toNat a.cps.toList).toArray⟩) H) := by
  intro pins s σ H x y v u Q I rx ry h
  obtain ⟨a, k, rfl, rfl, h0, h1, h2, q⟩ := h
  obtain ⟨t, rfl⟩ := rx
  obtain ⟨t', rfl⟩ := ry
  have e : ∀ m : Nat, (List.replicate m a.cps).foldl (· ++ ·) #[] = (Rf.rep m a.cps.toList).toArray := fun m => by
    have g : ∀ (m : Nat) (acc : List Nat), (List.replicate m a.cps).foldl (· ++ ·) acc.toArray = (acc ++ Rf.rep m a.cps.toList).toArray := by
      intro m
      induction m with
      | zero => intro acc; simp [Rf.rep]
      | succ m ih =>
        intro acc
        rw [List.replicate_succ, List.foldl_cons]
        have : acc.toArray ++ a.cps = (acc ++ a.cps.toList).toArray := by simp
        rw [this, ih]
        simp [Rf.rep, List.replicate_succ]
    have := g m []
    simpa using this
  have hk : a.length * k.toNat ≤ 1000 * 1000 := Nat.mul_le_mul h2 (by omega)
  refine PySem.P.mul_str (by rw [decide_eq_false (by omega), decide_eq_false (by omega)]; rfl) (fun z1 _ => ?_) (fun z1 _ => ?_) ?_
  · have : (1000 : Int) ≤ (2 ^ 63 - 1) / k := by
      apply Int.le_ediv_of_mul_le (by omega)
      omega
    have h3 : (a.length : Int) ≤ 1000 := by omega
    omega
  · have h5 : a.length * k.toNat ≤ 16777216 := by omega
    first
      | exact decide_eq_false (by rw [sizeLine_eq]; omega)
      | (unfold Builtin.Str.tooLong; rw [sizeLine_eq]; exact decide_eq_false (by omega))
  · by_cases c1 : k < 1
    · have ek : k = 0 := by omega
      subst ek
      rw [if_pos (by decide)]
      exact ⟨by decide, ⟨.str _, H, I.tok _, ⟨_, rfl⟩, q⟩⟩
    · rw [if_neg c1]
      by_cases c2 : (k == 1 || a.length == 0) = true
      · rw [if_pos c2]
        have : (⟨(Rf.rep k.toNat a.cps.toList).toArray⟩ : Str) = a := by
          rw [Bool.or_eq_true] at c2
          rcases c2 with c2 | c2
          · have : k = 1 := by simpa using c2
            subst this
            simp [Rf.rep]
          · have hz : a.cps = #[] := by
              have z : a.cps.size = 0 := by
                have : a.length = 0 := by simpa using c2
                exact this
              exact Array.eq_empty_of_size_eq_zero z
            cases a with
            | mk cps =>
              simp only at hz
              subst hz
              simp [Rf.rep]
        rw [this] at q
        exact ⟨.str a, H, I, ⟨_, rfl⟩, q⟩
      · rw [if_neg c2, e]
        refine ⟨?_, ⟨.str _, H, I.tok _, ⟨_, rfl⟩, q⟩⟩
        have h5 : a.cps.size * k.toNat ≤ 1000 * 1000 := hk
        show ((Rf.rep k.toNat a.cps.toList).toArray).size ≤ sizeLine
        rw [sizeLine_eq, List.size_toArray]
        unfold Rf.rep
        rw [PyProof.Rows.lm_len_rep_flat, Array.length_toList, Nat.mul_comm]
        omega
        /-
          | (show _ ≤ sizeLine; rw [sizeLine_eq]; show ((Rf.rep k.toNat a.cps.toList).toArray).size ≤ _; rw [List.size_toArray]; unfold Rf.rep; rw [PyProof.Rows.lm_len_rep_flat, Array.length_toList, Nat.mul_comm]; have : a.cps.size = a.length := rfl; omega)
          | skip -/
theorem op_mulD : OpR X (binaryOp .Mult) (rB X.K fun M => eOp M .mul) := by
  intro pins s σ H x y v u Q I rx ry h
  obtain ⟨p, F, M, d, e, r, rm, r1, r2, he, q⟩ := h
  cases r1 <;> cases r2 <;> first | (cases he; done) | skip
  case int.int i j =>
    have he : (if (bitsOk i && bitsOk j) = true then some (D.int (i * j)) else none) = some r := he
    split at he
    · cases he
      rename_i hc
      rw [Bool.and_eq_true] at hc
      have a1 := log2_le hc.1
      have a2 := log2_le hc.2
      exact op_mulW pins s σ H _ _ v u Q I rx ry ⟨_, _, rfl, rfl, (by show _ + _ < 1000000; omega), q _ _ _ _ (Step.refl ..) rm (.int _)⟩
    · cases he
  case tup.int _ _ a h1 s1 k =>
    have he : (if a ≠ [] ∧ 0 ≤ k ∧ k ≤ 1000 ∧ a.length ≤ 1000 then some (D.tup (Rf.rep k.toNat a)) else none) = some r := he
    split at he
    · cases he
      rename_i hc
      obtain ⟨c1, c2, c3, c4⟩ := hc
      have hne : ∀ {vs : List V}, Rels X.K p F vs a → vs ≠ [] := fun r z => by subst z; cases r; exact c1 rfl
      by_cases c5 : 2 ≤ k
      · exact op_repT pins s σ H _ _ v u Q I rx ry ⟨_, _, _, rfl, rfl, h1.sq rm, hne s1, c5, c3, by rw [s1.length]; exact c4, fun z hz => new_tup rm hz (s1.rep k.toNat) q⟩
      · refine op_rep01 pins s σ H _ _ v u Q I rx ry ⟨_, _, _, rfl, rfl, h1.sq rm, hne s1, ?_⟩
        by_cases c6 : k = 1
        · subst c6
          refine .inl ⟨rfl, q _ _ _ _ (Step.refl ..) rm ?_⟩
          have : Rf.rep (1 : Int).toNat a = a := by simp [Rf.rep]
          rw [this]
          exact .tup h1 s1
        · have c7 : k = 0 := by omega
          subst c7
          refine .inr ⟨rfl, fun z hz => new_tup (xs := []) (ds := []) rm hz .nil ?_⟩
          intro p' F' H' v' a1 a2 a3
          exact q p' F' H' v' a1 a2 (by simpa [Rf.rep] using a3)
    · cases he
  case lst.int _ _ a h1 s1 k =>
    have he : (if 0 ≤ k ∧ k < 2 ^ 63 ∧ a.length * k.toNat ≤ sizeLine then some (D.lst (Rf.rep k.toNat a)) else none) = some r := he
    split at he
    · cases he
      rename_i hc
      obtain ⟨c1, c2, c3⟩ := hc
      exact op_rep pins s σ H _ _ v u Q I rx ry ⟨_, _, _, rfl, rfl, rm.fro _ _ h1, by omega, c2, by rw [s1.length]; exact c3, fun z hz => new_lst rm hz (s1.rep k.toNat) q⟩
    · cases he
  case str.int a k =>
    have he : (if 0 ≤ k ∧ k ≤ 1000 ∧ a.length ≤ 1000 then some (D.str ⟨(Rf.rep k.toNat a.cps.toList).toArray⟩) else none) = some r := he
    split at he
    · cases he
      rename_i hc
      exact op_repS pins s σ H _ _ v u Q I rx ry ⟨_, _, rfl, rfl, hc.1, hc.2.1, hc.2.2, q _ _ _ _ (Step.refl ..) rm (.str _)⟩
    · cases he
/-- the operator of the text -/
def pyOp : Op → Operator
  | .add => .Add | .sub => .Sub | .mul => .Mult | .fdiv => .FloorDiv | .mod => .Mod | .pow => .Pow
theorem op_D (o : Op) : OpR X (binaryOp (pyOp o)) (rB X.K fun M => eOp M o) := by
  cases o
  · exact op_addD
  · exact op_subD
  · exact op_mulD
  · exact op_fdivD
  · exact op_modD
  · exact op_powD
end
end Rf
end T_RfMul
section T_RfCmp
set_option Elab.async false
set_option linter.all false
set_option maxRecDepth 100000
set_option maxHeartbeats 2000000
/-! Rf: comparisons, places, slices by data -/
namespace Rf
open PySem PySem.Spec PyProof.Rows L2
section
variable {K : PySem.W.Frag} {p : Ph} {F H : Hp} {M : Mem}
theorem toPys_cons {d : D} {ds : List D} {x : List PyData} (e : toPys (d :: ds) = some x) : ∃ a as, toPy d = some a ∧ toPys ds = some as ∧ x = a :: as := by
  unfold toPys at e
  cases h1 : toPy d with
  | none => rw [h1] at e; cases e
  | some a =>
    cases h2 : toPys ds with
    | none => rw [h1, h2] at e; cases e
    | some as => rw [h1, h2] at e; cases e; exact ⟨a, as, rfl, rfl, rfl⟩
theorem toPy_lst {ds : List D} {x : PyData} (e : toPy (.lst ds) = some x) : ∃ xs, toPys ds = some xs ∧ x = .list xs := by
  have e : (toPys ds).map PyData.list = some x := by rw [← e]; simp only [toPy]
  cases z : toPys ds with
  | none => rw [z] at e; cases e
  | some xs => rw [z] at e; cases e; exact ⟨xs, rfl, rfl⟩
theorem toPy_tup {ds : List D} {x : PyData} (e : toPy (.tup ds) = some x) : ∃ xs, toPys ds = some xs ∧ x = .tuple xs := by
  have e : (toPys ds).map PyData.tuple = some x := by rw [← e]; simp only [toPy]
  cases z : toPys ds with
  | none => rw [z] at e; cases e
  | some xs => rw [z] at e; cases e; exact ⟨xs, rfl, rfl⟩
theorem some_eq {α : Type} {a b : α} (h : some a = some b) : a = b := Option.some.inj h
mutual
theorem Rel.dp (rm : RM K p F M H) : ∀ (d : D) (v : V) (x : PyData), Rel K p F v d → toPy d = some x → Dp K H v x
  | .non, v, x, r, e => by
    have e : PyData.none = x := some_eq (by rw [← e]; simp only [toPy])
    subst e; cases r; exact .non
  | .bl b, v, x, r, e => by
    have e : PyData.bool b = x := some_eq (by rw [← e]; simp only [toPy])
    subst e; cases r; exact .bl b
  | .int b, v, x, r, e => by
    have e : PyData.int b = x := some_eq (by rw [← e]; simp only [toPy])
    subst e; cases r; exact .int b
  | .str b, v, x, r, e => by
    have e : PyData.str b = x := some_eq (by rw [← e]; simp only [toPy])
    subst e; cases r; exact .str b
  | .lst ds, v, x, r, e => by
    obtain ⟨xs, e1, rfl⟩ := toPy_lst e
    cases r with
    | lst h r => exact .lst (.inl (.inl (rm.fro _ _ h))) (Rels.dp rm ds _ xs r e1)
  | .tup ds, v, x, r, e => by
    obtain ⟨xs, e1, rfl⟩ := toPy_tup e
    cases r with
    | tup h r => exact .tup (h.sq rm) (Rels.dp rm ds _ xs r e1)
  | .dic _ _, v, x, r, e => by
    have e : (none : Option PyData) = some x := by rw [← e]; simp only [toPy]
    cases e
  | .cell _, v, x, r, e => by
    have e : (none : Option PyData) = some x := by rw [← e]; simp only [toPy]
    cases e
  | .scr _, v, x, r, e => by
    have e : (none : Option PyData) = some x := by rw [← e]; simp only [toPy]
    cases e
theorem Rels.dp (rm : RM K p F M H) : ∀ (d : List D) (v : List V) (x : List PyData), Rels K p F v d → toPys d = some x → DpAll K H v x
  | [], v, x, r, e => by
    have e : ([] : List PyData) = x := some_eq (by rw [← e]; simp only [toPys])
    subst e; cases r; exact .nil
  | d :: ds, v, x, r, e => by
    obtain ⟨a, as, e1, e2, rfl⟩ := toPys_cons e
    cases r with
    | cons h r => exact .cons (Rel.dp rm d _ a h e1) (Rels.dp rm ds _ as r e2)
end
theorem Rel.flat {v : V} {d : D} (r : Rel K p F v d) (h : flatD d = true) : flatV v = true := by
  cases r
  case non => rfl
  case bl => rfl
  case int => rfl
  case str => rfl
  all_goals exact absurd h Bool.false_ne_true
theorem Rel.eqf {v u : V} {d e : D} (r1 : Rel K p F v d) (r2 : Rel K p F u e) (h1 : flatD d = true) (h2 : flatD e = true) : eqV v u = eqF d e := by
  cases r1
  case non => cases r2 <;> first | rfl | exact absurd h2 Bool.false_ne_true
  case bl => cases r2 <;> first | rfl | exact absurd h2 Bool.false_ne_true
  case int => cases r2 <;> first | rfl | exact absurd h2 Bool.false_ne_true
  case str => cases r2 <;> first | rfl | exact absurd h2 Bool.false_ne_true
  all_goals exact absurd h1 Bool.false_ne_true
theorem all_cons2 {α : Type} {f : α → Bool} {a : α} {l : List α} (h : (a :: l).all f = true) : f a = true ∧ l.all f = true := by
  rw [List.all_cons, Bool.and_eq_true] at h
  exact h
theorem Rels.flat : ∀ (d : List D) (v : List V), Rels K p F v d → d.all flatD = true → v.all flatV = true
  | [], v, r, e => by cases r; rfl
  | d :: ds, v, r, e => by
    cases r with
    | cons h r => rw [List.all_cons, h.flat (all_cons2 e).1, Rels.flat ds _ r (all_cons2 e).2]; rfl
theorem Rels.inf {x : V} {a : D} (hx : Rel K p F x a) (fx : flatD a = true) : ∀ (d : List D) (v : List V), Rels K p F v d → d.all flatD = true → inV x v = d.any fun y => eqF y a
  | [], v, r, e => by cases r; rfl
  | d :: ds, v, r, e => by
    cases r with
    | cons h r =>
      have ih := Rels.inf hx fx ds _ r (all_cons2 e).2
      unfold inV at ih ⊢
      rw [List.any_cons, List.any_cons, h.eqf hx (all_cons2 e).1 fx, ih]
end
section
variable {X : Cx}
def pyCo : Co → CmpOp
  | .eq => .Eq | .ne => .NotEq | .lt => .Lt | .le => .LtE | .gt => .Gt | .ge => .GtE | .inn => .In | .nin => .NotIn
def gCo (o : Co) : Mem → D → D → Option D := fun _ d e => (eCo o d e).map .bl
theorem map_bl {o : Option Bool} {r : D} (h : o.map D.bl = some r) : ∃ b, o = some b ∧ r = .bl b := by
  cases o with
  | none => cases h
  | some b => cases h; exact ⟨b, rfl, rfl⟩
theorem eEq_some {a b : D} {k : Bool} (h : eEq a b = some k) : ∃ x y, toPy a = some x ∧ toPy b = some y ∧ SeqAt.shaped x = true ∧ SeqAt.shaped y = true ∧ k = PyData.eqv x y := by
  unfold eEq at h
  split at h
  · rename_i x y e1 e2
    split at h
    · rename_i hs
      rw [Bool.and_eq_true] at hs
      cases h
      exact ⟨x, y, e1, e2, hs.1, hs.2, rfl⟩
    · cases h
  · cases h
theorem co_D (o : Co) (hu : X.A.units + 65 < cLine) : OpR X (compareOp (pyCo o)) (rB X.K (gCo o)) := by
  intro pins s σ H x y v u Q I rx ry h
  obtain ⟨p, F, M, d, e, r, rm, r1, r2, he, q⟩ := h
  have he2 := map_bl he
  clear he
  obtain ⟨k, he, rfl⟩ := he2
  have fin : Q (.bl k) H := q _ _ _ _ (Step.refl ..) rm (.bl k)
  cases o
  case eq =>
    obtain ⟨a, b, e1, e2, s1, s2, rfl⟩ := eEq_some he
    exact op_eqD (by omega) pins s σ H _ _ v u Q I rx ry ⟨a, b, Rel.dp rm _ _ _ r1 e1, Rel.dp rm _ _ _ r2 e2, s1, s2, fin⟩
  case ne =>
    have he : (eEq d e).map not = some k := he
    cases z : eEq d e with
    | none => rw [z] at he; cases he
    | some j =>
      rw [z] at he; cases he
      obtain ⟨a, b, e1, e2, s1, s2, rfl⟩ := eEq_some z
      exact op_neD (by omega) pins s σ H _ _ v u Q I rx ry ⟨a, b, Rel.dp rm _ _ _ r1 e1, Rel.dp rm _ _ _ r2 e2, s1, s2, fin⟩
  case lt =>
    cases r1 <;> cases r2 <;> first | (cases he; done) | skip
    cases he
    exact op_lt pins s σ H _ _ v u Q I rx ry ⟨_, _, rfl, rfl, fin⟩
  case le =>
    cases r1 <;> cases r2 <;> first | (cases he; done) | skip
    cases he
    exact op_le pins s σ H _ _ v u Q I rx ry ⟨_, _, rfl, rfl, fin⟩
  case gt =>
    cases r1 <;> cases r2 <;> first | (cases he; done) | skip
    cases he
    exact op_gt pins s σ H _ _ v u Q I rx ry ⟨_, _, rfl, rfl, fin⟩
  case ge =>
    cases r1 <;> cases r2 <;> first | (cases he; done) | skip
    cases he
    exact op_ge pins s σ H _ _ v u Q I rx ry ⟨_, _, rfl, rfl, fin⟩
  case inn =>
    cases r2 with
    | @lst _ _ ys h2 s2 =>
      have he : (match toPy d, toPys ys with
        | some x, some ys => if SeqAt.shaped x && SeqAt.shaped (.list ys) then some (ys.any fun z => PyData.eqv z x) else none
        | _, _ => none) = some k := he
      split at he
      · rename_i a b e1 e2
        split at he
        · rename_i hs
          rw [Bool.and_eq_true] at hs
          cases he
          exact op_inD hu pins s σ H _ _ v u Q I rx ry ⟨a, b, Rel.dp rm _ _ _ r1 e1, .lst (.inl (.inl (rm.fro _ _ h2))) (Rels.dp rm _ _ _ s2 e2), hs.1, hs.2, fin⟩
        · cases he
      · cases he
    | @tup _ _ ys h2 s2 =>
      have he : (if (flatD d && ys.all flatD) = true then some (ys.any fun y => eqF y d) else none) = some k := he
      split at he
      · rename_i hs
        rw [Bool.and_eq_true] at hs
        cases he
        refine op_in_seq pins s σ H _ _ v u Q I rx ry ⟨_, _, rfl, .inr (h2.sq rm), r1.flat hs.1, Rels.flat _ _ s2 hs.2, ?_⟩
        rw [Rels.inf r1 hs.1 _ _ s2 hs.2]
        exact fin
      · cases he
    | _ => cases he
  case nin =>
    have he : (eIn d e).map not = some k := he
    cases z : eIn d e with
    | none => rw [z] at he; cases he
    | some j =>
      rw [z] at he; cases he
      cases r2 with
      | @lst _ _ ys h2 s2 =>
        have z : (match toPy d, toPys ys with
          | some x, some ys => if SeqAt.shaped x && SeqAt.shaped (.list ys) then some (ys.any fun z => PyData.eqv z x) else none
          | _, _ => none) = some j := z
        split at z
        · rename_i a b e1 e2
          split at z
          · rename_i hs
            rw [Bool.and_eq_true] at hs
            cases z
            exact op_notInD hu pins s σ H _ _ v u Q I rx ry ⟨a, b, Rel.dp rm _ _ _ r1 e1, .lst (.inl (.inl (rm.fro _ _ h2))) (Rels.dp rm _ _ _ s2 e2), hs.1, hs.2, fin⟩
          · cases z
        · cases z
      | @tup _ _ ys h2 s2 =>
        have z : (if (flatD d && ys.all flatD) = true then some (ys.any fun y => eqF y d) else none) = some j := z
        split at z
        · rename_i hs
          rw [Bool.and_eq_true] at hs
          cases z
          refine op_notIn_seq pins s σ H _ _ v u Q I rx ry ⟨_, _, rfl, .inr (h2.sq rm), r1.flat hs.1, Rels.flat _ _ s2 hs.2, ?_⟩
          rw [Rels.inf r1 hs.1 _ _ s2 hs.2]
          exact fin
        · cases z
      | _ => cases z

/-! ### places -/
theorem Rels.at {p : Ph} {F : Hp} {vs : List V} {ds : List D} {i : Int} {d : D} (r : Rels X.K p F vs ds) (h : atI ds i = some d) : ∃ v, atI vs i = some v ∧ Rel X.K p F v d := by
  unfold atI at h ⊢
  rw [r.length]
  cases e : ixN ds.length i with
  | none => rw [e] at h; cases h
  | some j =>
    rw [e] at h
    obtain ⟨v, h1, h2⟩ := r.get (show ds[j]? = some d from h)
    exact ⟨v, h1, h2⟩
theorem ints_at {ns : List Int} {i : Int} {d : D} (h : (atI ns i).map D.int = some d) : ∃ n, d = .int n ∧ atI (ns.map V.int) i = some (.int n) := by
  cases e : atI ns i with
  | none => rw [e] at h; cases h
  | some n =>
    rw [e] at h; cases h
    refine ⟨n, rfl, ?_⟩
    unfold atI at e ⊢
    rw [List.length_map]
    cases z : ixN ns.length i with
    | none => rw [z] at e; cases e
    | some j =>
      rw [z] at e
      have e : ns[j]? = some n := e
      show (ns.map V.int)[j]? = _
      rw [List.getElem?_map, e]
      rfl
theorem ix_D : IxR X (rB X.K eIdx) := by
  intro value slice pins s σ H x y v u Q I rx ry h hs
  obtain ⟨p, F, M, d, e, r, rm, r1, r2, he, q⟩ := h
  cases r1 <;> cases r2 <;> first | (cases he; done) | skip
  case lst.int h1 s1 i =>
    obtain ⟨w, e1, e2⟩ := s1.at he
    exact ix_list value slice pins s σ H _ _ v u Q I rx ry ⟨_, _, _, w, rfl, rfl, .inl (.inl (rm.fro _ _ h1)), e1, q _ _ _ _ (Step.refl ..) rm e2⟩ hs
  case tup.int h1 s1 i =>
    obtain ⟨w, e1, e2⟩ := s1.at he
    exact ix_tup value slice pins s σ H _ _ v u Q I rx ry ⟨_, _, _, w, rfl, rfl, h1.sq rm, e1, q _ _ _ _ (Step.refl ..) rm e2⟩ hs
  case cell.int n _ h1 i =>
    have he : (match M[n]? with
      | some (.lst xs) => atI xs i
      | _ => none) = some r := he
    split at he
    · rename_i xs hm
      obtain ⟨_, vs, e1, s1, _⟩ := rm.cell _ _ _ h1 hm (by intro z; cases z)
      obtain ⟨w, e2, e3⟩ := s1.at he
      exact ix_list value slice pins s σ H _ _ v u Q I rx ry ⟨_, _, _, w, rfl, rfl, .inl (.inl e1), e2, q _ _ _ _ (Step.refl ..) rm e3⟩ hs
    · cases he
  case scr.int ns h1 i =>
    obtain ⟨n, rfl, e1⟩ := ints_at he
    exact ix_list value slice pins s σ H _ _ v u Q I rx ry ⟨_, _, _, _, rfl, rfl, rm.sqs h1, e1, q _ _ _ _ (Step.refl ..) rm (.int n)⟩ hs

/-! ### slices -/
theorem Rels.cutD {K : PySem.W.Frag} {p : Ph} {F : Hp} {vs : List V} {ds : List D} (r : Rels K p F vs ds) (lo hi : Option Int) : Rels K p F (cutV vs lo hi) (Rf.cutD ds lo hi) := by
  unfold cutV Rf.cutD
  rw [r.length]
  exact (r.drop _).take _
def rSl (K : PySem.W.Frag) : V → Option Int → Option Int → Hp → VK → Prop := fun x lo hi H Q => ∃ p F M d r, RM K p F M H ∧ Rel K p F x d ∧ eSlc d lo hi = some r ∧
  ∀ p' F' H' v, Step p F H p' F' H' → RM K p' F' M H' → Rel K p' F' v r → Q v H'
end
end Rf
end T_RfCmp
section T_RfBi
set_option Elab.async false
set_option linter.all false
set_option maxRecDepth 100000
set_option maxHeartbeats 2000000
/-! Rf: built-in functions by data -/
namespace Rf
open PySem PySem.Spec PyProof.Rows L2
/-! ### texts in order -/
theorem lt_irr : ∀ a : List Nat, ltCps a a = false
  | [] => rfl
  | x :: a => by
    show (decide (x < x) || (x == x && ltCps a a)) = false
    rw [lt_irr a]; simp
theorem lt_tri : ∀ a b : List Nat, ltCps a b = false → ltCps b a = false → a = b
  | [], [], _, _ => rfl
  | [], _ :: _, h, _ => by cases h
  | _ :: _, [], _, h => by cases h
  | x :: a, y :: b, h1, h2 => by
    have h1 : (decide (x < y) || (x == y && ltCps a b)) = false := h1
    have h2 : (decide (y < x) || (y == x && ltCps b a)) = false := h2
    rw [Bool.or_eq_false_iff] at h1 h2
    have e : x = y := by
      have := of_decide_eq_false h1.1
      have := of_decide_eq_false h2.1
      omega
    subst e
    have h3 : ltCps a b = false := by simpa using h1.2
    have h4 : ltCps b a = false := by simpa using h2.2
    rw [lt_tri a b h3 h4]
theorem lt_trans' : ∀ a b c : List Nat, ltCps a b = true → ltCps b c = true → ltCps a c = true
  | [], [], _, h, _ => by cases h
  | [], _ :: _, [], _, h => by cases h
  | [], _ :: _, _ :: _, _, _ => rfl
  | _ :: _, [], _, h, _ => by cases h
  | _ :: _, _ :: _, [], _, h => by cases h
  | x :: a, y :: b, z :: c, h1, h2 => by
    have h1 : (decide (x < y) || (x == y && ltCps a b)) = true := h1
    have h2 : (decide (y < z) || (y == z && ltCps b c)) = true := h2
    show (decide (x < z) || (x == z && ltCps a c)) = true
    rw [Bool.or_eq_true] at h1 h2 ⊢
    rcases h1 with h1 | h1
    · have h1 := of_decide_eq_true h1
      rcases h2 with h2 | h2
      · exact .inl (decide_eq_true (by have := of_decide_eq_true h2; omega))
      · rw [Bool.and_eq_true] at h2
        exact .inl (decide_eq_true (by have := eq_of_beq h2.1; omega))
    · rw [Bool.and_eq_true] at h1
      have e := eq_of_beq h1.1
      subst e
      rcases h2 with h2 | h2
      · exact .inl h2
      · rw [Bool.and_eq_true] at h2
        exact .inr (by rw [Bool.and_eq_true]; exact ⟨h2.1, lt_trans' a b c h1.2 h2.2⟩)
theorem strLe_trans (a b c : Str) (h1 : strLe a b = true) (h2 : strLe b c = true) : strLe a c = true := by
  unfold strLe at *
  rw [Bool.not_eq_true'] at *
  cases e : ltCps c.cps.toList a.cps.toList with
  | false => rfl
  | true =>
    exfalso
    cases e2 : ltCps b.cps.toList c.cps.toList with
    | true =>
      have := lt_trans' _ _ _ e2 e
      rw [h1] at this; cases this
    | false =>
      have e3 := lt_tri _ _ e2 h2
      rw [← e3, h1] at e
      cases e
theorem strLe_total (a b : Str) : (strLe a b || strLe b a) = true := by
  unfold strLe
  cases e : ltCps b.cps.toList a.cps.toList with
  | false => rfl
  | true =>
    cases e2 : ltCps a.cps.toList b.cps.toList with
    | false => rfl
    | true => have := lt_trans' _ _ _ e e2; rw [lt_irr] at this; cases this
theorem str_ext {a b : Str} (h : a.cps.toList = b.cps.toList) : a = b := by
  obtain ⟨a⟩ := a
  obtain ⟨b⟩ := b
  have : a = b := by simpa using congrArg List.toArray h
  rw [this]
theorem strLe_anti (a b : Str) (h1 : strLe a b = true) (h2 : strLe b a = true) : a = b := by
  unfold strLe at h1 h2
  rw [Bool.not_eq_true'] at h1 h2
  exact str_ext (lt_tri _ _ h2 h1)
theorem rising_all : ∀ (l : List Str) (x : Str), risingS x l = true → (∀ y ∈ l, strLe x y = true) ∧ l.Pairwise fun a b => strLe a b = true
  | [], x, _ => ⟨fun _ h => (by cases h), .nil⟩
  | y :: l, x, h => by
    have h : (!ltCps y.cps.toList x.cps.toList && risingS y l) = true := h
    rw [Bool.and_eq_true] at h
    obtain ⟨q1, q2⟩ := rising_all l y h.2
    have hx : strLe x y = true := h.1
    refine ⟨fun z hz => ?_, List.pairwise_cons.mpr ⟨q1, q2⟩⟩
    rcases List.mem_cons.mp hz with e | hz
    · rw [e]; exact hx
    · exact strLe_trans _ _ _ hx (q1 z hz)
theorem sortedS_pair : ∀ l : List Str, sortedS l = true → l.Pairwise fun a b => strLe a b = true
  | [], _ => .nil
  | x :: l, h => by
    obtain ⟨q1, q2⟩ := rising_all l x h
    exact List.pairwise_cons.mpr ⟨q1, q2⟩
theorem sortS_pair (l : List Str) : (sortS l).Pairwise fun a b => strLe a b = true := List.pairwise_mergeSort strLe_trans strLe_total l
theorem sortS_perm (l : List Str) : (sortS l).Perm l := List.mergeSort_perm l strLe
/-- sorted texts are one list -/
theorem sortS_of {ys xs : List Str} (hp : ys.Perm xs) (hs : sortedS ys = true) : ys = sortS xs :=
  List.Perm.eq_of_pairwise (fun a b _ _ h1 h2 => strLe_anti a b h1 h2) (sortedS_pair ys hs) (sortS_pair xs) (hp.trans (sortS_perm xs).symm)
section
variable {X : Cx} {K : PySem.W.Frag} {p : Ph} {F H : Hp} {M : Mem}
theorem bools_of : ∀ (ds : List D) (vs : List V) (bs : List Bool), Rels K p F vs ds → bools ds = some bs → vs = bs.map V.bl
  | [], vs, bs, r, e => by cases r; cases e; rfl
  | d :: ds, vs, bs, r, e => by
    cases r with
    | cons h r =>
      cases h with
      | bl b =>
        have e : (bools ds).map (b :: ·) = some bs := e
        cases z : bools ds with
        | none => rw [z] at e; cases e
        | some cs =>
          rw [z] at e; cases e
          rw [bools_of ds _ cs r z]; rfl
      | _ => cases e
theorem strs_of : ∀ (ds : List D) (vs : List V) (bs : List Str), Rels K p F vs ds → strsOf ds = some bs → vs = bs.map V.str
  | [], vs, bs, r, e => by cases r; cases e; rfl
  | d :: ds, vs, bs, r, e => by
    cases r with
    | cons h r =>
      cases h with
      | str b =>
        have e : (strsOf ds).map (b :: ·) = some bs := e
        cases z : strsOf ds with
        | none => rw [z] at e; cases e
        | some cs =>
          rw [z] at e; cases e
          rw [strs_of ds _ cs r z]; rfl
      | _ => cases e
theorem Rels.strs (l : List Str) : Rels K p F (l.map V.str) (l.map D.str) := by
  induction l with
  | nil => exact .nil
  | cons a l ih => exact .cons (.str a) ih
theorem map_some {α β : Type} {o : Option α} {f : α → β} {r : β} (h : o.map f = some r) : ∃ a, o = some a ∧ r = f a := by
  cases o with
  | none => cases h
  | some a => cases h; exact ⟨a, rfl, rfl⟩
/-- one argument -/
theorem one_of {d : D} {vs : List V} (r : Rels K p F vs [d]) : ∃ v, vs = [v] ∧ Rel K p F v d := by
  cases r with
  | cons h r => cases r; exact ⟨_, rfl, h⟩
theorem two_of {d e : D} {vs : List V} (r : Rels K p F vs [d, e]) : ∃ v w, vs = [v, w] ∧ Rel K p F v d ∧ Rel K p F w e := by
  cases r with
  | cons h r =>
    cases r with
    | cons h' r => cases r; exact ⟨_, _, rfl, h, h'⟩
theorem cr_absD : CallR X (.builtin "abs") (rA X.K fun _ => bAbs) := by
  intro pins s σ H xs us Q I r h
  obtain ⟨p, F, M, ds, d, rm, rs, he, q⟩ := h
  have he : bAbs ds = some d := he
  unfold bAbs at he
  split at he
  · cases he
    obtain ⟨v, rfl, h⟩ := one_of rs
    cases h
    exact call_abs pins s σ H _ us Q I r ⟨_, rfl, q _ _ _ _ (Step.refl ..) rm (.int _)⟩
  · cases he
theorem cr_allD (hc : X.calm = true) : CallR X (.builtin "all") (rA X.K fun _ => bAll) := by
  intro pins s σ H xs us Q I r h
  obtain ⟨p, F, M, ds, d, rm, rs, he, q⟩ := h
  have he : bAll ds = some d := he
  unfold bAll at he
  split at he
  · obtain ⟨v, rfl, h⟩ := one_of rs
    obtain ⟨bs, e1, rfl⟩ := map_some he
    cases h with
    | lst h s1 =>
      have e2 := bools_of _ _ _ s1 e1
      subst e2
      exact cr_all hc pins s σ H _ us Q I r ⟨_, bs, rfl, .inl (.inl (rm.fro _ _ h)), q _ _ _ _ (Step.refl ..) rm (.bl _)⟩
  · cases he
theorem cr_anyD (hc : X.calm = true) : CallR X (.builtin "any") (rA X.K fun _ => bAny) := by
  intro pins s σ H xs us Q I r h
  obtain ⟨p, F, M, ds, d, rm, rs, he, q⟩ := h
  have he : bAny ds = some d := he
  unfold bAny at he
  split at he
  · obtain ⟨v, rfl, h⟩ := one_of rs
    obtain ⟨bs, e1, rfl⟩ := map_some he
    cases h with
    | lst h s1 =>
      have e2 := bools_of _ _ _ s1 e1
      subst e2
      exact cr_any hc pins s σ H _ us Q I r ⟨_, bs, rfl, .inl (.inl (rm.fro _ _ h)), q _ _ _ _ (Step.refl ..) rm (.bl _)⟩
  · cases he
theorem cr_boolD : CallR X (.type "bool") (rA X.K fun _ => bBool) := by
  intro pins s σ H xs us Q I r h
  obtain ⟨p, F, M, ds, d, rm, rs, he, q⟩ := h
  have he : bBool ds = some d := he
  unfold bBool at he
  split at he
  · cases he
    obtain ⟨v, rfl, h⟩ := one_of rs
    cases h
    exact call_bool1 pins s σ H _ us Q I r (.inr ⟨_, rfl, q _ _ _ _ (Step.refl ..) rm (.bl _)⟩)
  · cases he
theorem cr_intD : CallR X (.type "int") (rA X.K fun _ => bInt) := by
  intro pins s σ H xs us Q I r h
  obtain ⟨p, F, M, ds, d, rm, rs, he, q⟩ := h
  have he : bInt ds = some d := he
  unfold bInt at he
  split at he
  · cases he
    obtain ⟨v, rfl, h⟩ := one_of rs
    cases h
    exact call_int1 pins s σ H _ us Q I r (.inl ⟨_, rfl, q _ _ _ _ (Step.refl ..) rm (.int _)⟩)
  · cases he
    obtain ⟨v, rfl, h⟩ := one_of rs
    cases h
    exact call_int1 pins s σ H _ us Q I r (.inr ⟨_, rfl, q _ _ _ _ (Step.refl ..) rm (.int _)⟩)
  · cases he
theorem cr_lenD : CallR X (.builtin "len") (rA X.K bLen) := by
  intro pins s σ H xs us Q I r h
  obtain ⟨p, F, M, ds, d, rm, rs, he, q⟩ := h
  have he : bLen M ds = some d := he
  unfold bLen at he
  split at he
  · cases he
    obtain ⟨v, rfl, h⟩ := one_of rs
    cases h with
    | lst h s1 => exact call_len pins s σ H _ us Q I r ⟨_, _, rfl, .inl ⟨_, .inl (.inl (rm.fro _ _ h)), rfl⟩, by rw [s1.length]; exact q _ _ _ _ (Step.refl ..) rm (.int _)⟩
  · cases he
    obtain ⟨v, rfl, h⟩ := one_of rs
    cases h with
    | tup h s1 => exact call_len pins s σ H _ us Q I r ⟨_, _, rfl, .inr ⟨_, h.sq rm, rfl⟩, by rw [s1.length]; exact q _ _ _ _ (Step.refl ..) rm (.int _)⟩
  · split at he
    · rename_i hl
      cases he
      obtain ⟨v, rfl, h⟩ := one_of rs
      cases h
      exact call_len pins s σ H _ us Q I r ⟨_, _, rfl, ⟨hl, rfl⟩, q _ _ _ _ (Step.refl ..) rm (.int _)⟩
    · cases he
  · split at he
    · rename_i hm
      cases he
      obtain ⟨v, rfl, h⟩ := one_of rs
      cases h with
      | cell h1 =>
        obtain ⟨_, vs, e1, s1, _⟩ := rm.cell _ _ _ h1 hm (by intro z; cases z)
        exact call_len pins s σ H _ us Q I r ⟨_, _, rfl, .inl ⟨_, .inl (.inl e1), rfl⟩, by rw [s1.length]; exact q _ _ _ _ (Step.refl ..) rm (.int _)⟩
    · cases he
  · cases he
    obtain ⟨v, rfl, h⟩ := one_of rs
    cases h with
    | scr h1 => exact call_len pins s σ H _ us Q I r ⟨_, _, rfl, .inl ⟨_, rm.sqs h1, rfl⟩, by rw [List.length_map]; exact q _ _ _ _ (Step.refl ..) rm (.int _)⟩
  · cases he
theorem cr_listD : CallR X (.type "list") (rA X.K fun _ => bList) := by
  intro pins s σ H xs us Q I r h
  obtain ⟨p, F, M, ds, d, rm, rs, he, q⟩ := h
  have he : bList ds = some d := he
  unfold bList at he
  split at he
  · cases he
    obtain ⟨v, rfl, h⟩ := one_of rs
    cases h with
    | lst h s1 => exact call_list_of pins s σ H _ us Q I r ⟨_, _, rfl, .inl (.inl (.inl (rm.fro _ _ h))), fun z hz => new_lst rm hz s1 q⟩
  · cases he
    obtain ⟨v, rfl, h⟩ := one_of rs
    cases h with
    | tup h s1 => exact call_list_of pins s σ H _ us Q I r ⟨_, _, rfl, .inr (h.sq rm), fun z hz => new_lst rm hz s1 q⟩
  · cases he
theorem cr_tupleD : CallR X (.type "tuple") (rA X.K fun _ => bTuple) := by
  intro pins s σ H xs us Q I r h
  obtain ⟨p, F, M, ds, d, rm, rs, he, q⟩ := h
  have he : bTuple ds = some d := he
  unfold bTuple at he
  split at he
  · cases he
    obtain ⟨v, rfl, h⟩ := one_of rs
    cases h with
    | lst h s1 => exact call_tuple_of pins s σ H _ us Q I r ⟨_, _, rfl, .inl ⟨.inl (.inl (rm.fro _ _ h)), fun z hz => new_tup rm hz s1 q⟩⟩
  · cases he
    obtain ⟨v, rfl, h⟩ := one_of rs
    cases h with
    | tup h s1 => exact call_tuple_of pins s σ H _ us Q I r ⟨_, _, rfl, .inr ⟨h.sq rm, q _ _ _ _ (Step.refl ..) rm (.tup h s1)⟩⟩
  · cases he
theorem cr_max2D (hc : X.calm = true) : CallR X (.builtin "max") (rA X.K fun _ => bMax2) := by
  intro pins s σ H xs us Q I r h
  obtain ⟨p, F, M, ds, d, rm, rs, he, q⟩ := h
  have he : bMax2 ds = some d := he
  unfold bMax2 at he
  split at he
  · cases he
    obtain ⟨v, w, rfl, h1, h2⟩ := two_of rs
    cases h1; cases h2
    exact call_max2 hc pins s σ H _ us Q I r ⟨_, _, rfl, q _ _ _ _ (Step.refl ..) rm (.int _)⟩
  · cases he
theorem cr_min2D (hc : X.calm = true) : CallR X (.builtin "min") (rA X.K fun _ => bMin2) := by
  intro pins s σ H xs us Q I r h
  obtain ⟨p, F, M, ds, d, rm, rs, he, q⟩ := h
  have he : bMin2 ds = some d := he
  unfold bMin2 at he
  split at he
  · cases he
    obtain ⟨v, w, rfl, h1, h2⟩ := two_of rs
    cases h1; cases h2
    exact call_min2 hc pins s σ H _ us Q I r ⟨_, _, rfl, q _ _ _ _ (Step.refl ..) rm (.int _)⟩
  · cases he
theorem cr_sortStrD : CallR X (.builtin "sorted") (rA X.K fun _ => bSortStr) := by
  intro pins s σ H xs us Q I r h
  obtain ⟨p, F, M, ds, d, rm, rs, he, q⟩ := h
  have he : bSortStr ds = some d := he
  unfold bSortStr at he
  split at he
  · split at he
    · rename_i l hl
      split at he
      · rename_i h64
        cases he
        obtain ⟨v, rfl, h⟩ := one_of rs
        cases h with
        | lst h s1 =>
          have e2 := strs_of _ _ _ s1 hl
          subst e2
          refine cr_sortedS pins s σ H _ us Q I r ⟨_, l, rfl, .inl (.inl (rm.fro _ _ h)), h64, fun ys z hp hs hz => ?_⟩
          rw [sortS_of hp hs]
          exact new_lst rm hz (Rels.strs _) q
      · cases he
    · cases he
  · cases he
theorem RM.tyS {p : Ph} {F : Hp} {M : Mem} (s : Str) : tyV K "str" (.str s) H := rfl
theorem mt_joinD : MtR X "str.join" (fun x xs => rA X.K (fun _ => bJoin) (x :: xs)) := by
  intro pins s σ H x xs v us Q I rx rs h
  obtain ⟨p, F, M, ds, d, rm, rl, he, q⟩ := h
  have he : bJoin ds = some d := he
  unfold bJoin at he
  split at he
  · split at he
    · rename_i l hl
      split at he
      · rename_i hz
        cases he
        obtain ⟨a, b, e, h1, h2⟩ := two_of rl
        cases e
        cases h1
        cases h2 with
        | lst h s1 =>
          have e2 := strs_of _ _ _ s1 hl
          subst e2
          exact mt_join pins s σ H _ _ v us Q I rx rs ⟨_, _, l, rfl, rfl, .inl (.inl (.inl (rm.fro _ _ h))), hz, q _ _ _ _ (Step.refl ..) rm (.str _)⟩
      · cases he
    · cases he
  · cases he
theorem mt_splitD : MtR X "str.split" (fun x xs => rA X.K (fun _ => bSplit) (x :: xs)) := by
  intro pins s σ H x xs v us Q I rx rs h
  obtain ⟨p, F, M, ds, d, rm, rl, he, q⟩ := h
  have he : bSplit ds = some d := he
  unfold bSplit at he
  split at he
  · split at he
    · rename_i hz
      cases he
      obtain ⟨a, b, e, h1, h2⟩ := two_of rl
      cases e
      cases h1
      cases h2
      exact mt_split pins s σ H _ _ v us Q I rx rs ⟨_, _, rfl, rfl, hz.1, hz.2, fun z hz => new_lst rm hz (Rels.strs _) q⟩
    · cases he
  · cases he
theorem mt_upperD : MtR X "str.upper" (fun x xs => rA X.K (fun _ => bUpper) (x :: xs)) := by
  intro pins s σ H x xs v us Q I rx rs h
  obtain ⟨p, F, M, ds, d, rm, rl, he, q⟩ := h
  have he : bUpper ds = some d := he
  unfold bUpper at he
  split at he
  · split at he
    · rename_i hz
      cases he
      obtain ⟨a, e, h1⟩ := one_of rl
      cases e
      cases h1
      exact mt_upper pins s σ H _ _ v us Q I rx rs ⟨_, rfl, rfl, hz, q _ _ _ _ (Step.refl ..) rm (.str _)⟩
    · cases he
  · cases he
end
end Rf
end T_RfBi
section T_RfExpr
set_option Elab.async false
set_option linter.all false
set_option maxRecDepth 100000
set_option maxHeartbeats 1000000
/-! Rf: expressions -/
namespace Rf
open PySem PySem.Spec PyProof.Rows L2
/-- the slots hold the core's values -/
structure RE (K : PySem.W.Frag) (p : Ph) (F : Hp) (env : Env) (σ : L2.St) : Prop where
  len : env.length = σ.length
  get : ∀ (i : Nat) (d : D), env[i]? = some (some d) → ∃ v, σ[i]? = some (some v) ∧ Rel K p F v d
theorem RE.mono {K : PySem.W.Frag} {p p' : Ph} {F F' : Hp} {env : Env} {σ : L2.St} (r : RE K p F env σ) (l : Le p F p' F') : RE K p' F' env σ :=
  ⟨r.len, fun i d e => let ⟨v, h1, h2⟩ := r.get i d e; ⟨v, h1, h2.mono l⟩⟩
theorem RE.set {K : PySem.W.Frag} {p : Ph} {F : Hp} {env : Env} {σ : L2.St} {i : Nat} {v : V} {d : D} (r : RE K p F env σ) (h : Rel K p F v d) : RE K p F (env.set i (some d)) (σ.set i (some v)) := by
  refine ⟨by rw [List.length_set, List.length_set]; exact r.len, fun j e hj => ?_⟩
  by_cases hi : i = j
  · subst hi
    by_cases hl : i < env.length
    · rw [List.getElem?_set_self hl] at hj
      have := Option.some.inj (Option.some.inj hj)
      subst this
      exact ⟨v, by rw [List.getElem?_set_self (by rw [← r.len]; exact hl)], h⟩
    · rw [List.getElem?_eq_none (by rw [List.length_set]; omega)] at hj
      cases hj
  · rw [List.getElem?_set_ne hi] at hj ⊢
    exact r.get j e hj
/-- an exception's class and line -/
def ExcR (K : PySem.W.Frag) (ca : Nat → Addr) (p : Ph) (F H : Hp) (x : Exn) (cls : Value) (dd : Option Addr) : Prop :=
  cls = .ref (ca x.cls) ∧ match x.line with
    | none => True
    | some d => ∃ a v, dd = some a ∧ H a = some (.xd [(Str.ofString "line", v)]) ∧ Rel K p F v d
structure G where
  K : PySem.W.Frag
  ca : Nat → Addr
section
variable {α β : Type} {K : PySem.W.Frag} {ca : Nat → Addr} {W : WX}
/-- an evaluation's end, met by what is wanted -/
def At (K : PySem.W.Frag) (ca : Nat → Addr) (W : WX) (σ : L2.St) (rel : Ph → Hp → β → α → Prop) (p : Ph) (F : Hp) (H : Hp) (res : Res α) (Q : β → Hp → Prop) : Prop :=
  ∃ r, res = some r ∧ match r with
    | .ok a M' => ∀ p' F' H' v, Step p F H p' F' H' → RM K p' F' M' H' → rel p' F' v a → Q v H'
    | .er x M' => ∀ p' F' H' cls dd, Step p F H p' F' H' → RM K p' F' M' H' → ExcR K ca p' F' H' x cls dd → W cls dd σ H'
/-- a reading by an evaluation -/
def tG (K : PySem.W.Frag) (ca : Nat → Addr) (W : WX) (rel : Ph → Hp → β → α → Prop) (f : Env → Mem → Res α) : L2.St → Hp → (β → Hp → Prop) → Prop :=
  fun σ H Q => ∃ p F env M, RM K p F M H ∧ RE K p F env σ ∧ At K ca W σ rel p F H (f env M) Q
abbrev tE (K : PySem.W.Frag) (ca : Nat → Addr) (W : WX) (f : Env → Mem → Res D) : TE := tG K ca W (Rel K) f
abbrev tEs (K : PySem.W.Frag) (ca : Nat → Addr) (W : WX) (f : Env → Mem → Res (List D)) : TA := tG K ca W (Rels K) f
theorem At.imp {σ : L2.St} {rel : Ph → Hp → β → α → Prop} {p : Ph} {F H : Hp} {res : Res α} {Q Q' : β → Hp → Prop} (h : At K ca W σ rel p F H res Q) (i : ∀ v H', Q v H' → Q' v H') : At K ca W σ rel p F H res Q' := by
  obtain ⟨r, e, h⟩ := h
  refine ⟨r, e, ?_⟩
  cases r with
  | ok a M => exact fun p' F' H' v s r q => i _ _ (h p' F' H' v s r q)
  | er x M => exact h
/-- one after the other -/
theorem At.bind {γ δ : Type} {σ : L2.St} {rel : Ph → Hp → β → α → Prop} {rel1 : Ph → Hp → δ → γ → Prop} {p : Ph} {F H : Hp} {res : Res γ} {k : γ → Mem → Res α} {Q : β → Hp → Prop} (h : At K ca W σ rel p F H (res.bind k) Q) :
    At K ca W σ rel1 p F H res fun v H1 => ∃ p1 F1 M1 d, Step p F H p1 F1 H1 ∧ RM K p1 F1 M1 H1 ∧ rel1 p1 F1 v d ∧ At K ca W σ rel p1 F1 H1 (k d M1) Q := by
  obtain ⟨r, e, h⟩ := h
  cases res with
  | none => cases e
  | some res =>
    cases res with
    | ok a M =>
      refine ⟨.ok a M, rfl, fun p' F' H' v s rm q => ⟨p', F', M, a, s, rm, q, r, e, ?_⟩⟩
      cases r with
      | ok b M2 => exact fun p2 F2 H2 w s2 => h p2 F2 H2 w (s.trans s2)
      | er x M2 => exact fun p2 F2 H2 c d s2 => h p2 F2 H2 c d (s.trans s2)
    | er x M =>
      have e : some (R.er x M) = some r := e
      cases e
      exact ⟨_, rfl, h⟩
theorem At.ok_ {σ : L2.St} {rel : Ph → Hp → β → α → Prop} {p : Ph} {F H : Hp} {a : α} {M : Mem} {Q : β → Hp → Prop} {v : β} (rm : RM K p F M H) (h : At K ca W σ rel p F H (ok a M) Q) (r : rel p F v a) : Q v H := by
  obtain ⟨r', e, h⟩ := h
  cases e
  exact h p F H v (Step.refl ..) rm r
/-- a pure step: what a rule by data asks -/
theorem At.lift_ {σ : L2.St} {p : Ph} {F H : Hp} {o : Option D} {M : Mem} {Q : VK} (h : At K ca W σ (Rel K) p F H (lift o M) Q) :
    ∃ r, o = some r ∧ ∀ p' F' H' v, Step p F H p' F' H' → RM K p' F' M H' → Rel K p' F' v r → Q v H' := by
  obtain ⟨r, e, h⟩ := h
  cases o with
  | none => cases e
  | some a => cases e; exact ⟨a, rfl, h⟩
end
section
variable {X : Cx} {ca : Nat → Addr} {W : WX} {e a b c : Expr} {es : List Expr} {f g h : Env → Mem → Res D} {pos : Pos}
theorem pe_imp {t t' : TE} (h : PE X e t) (i : ∀ σ H Q, t' σ H Q → t σ H Q) : PE X e t' := ⟨fun pins s σ H Q I q => h.run pins s σ H Q I (i σ H Q q)⟩
theorem pt_imp {t t' : TT} (h : PT X e t) (i : ∀ σ H Q, t' σ H Q → t σ H Q) : PT X e t' := ⟨fun pins s σ H Q I q => h.run pins s σ H Q I (i σ H Q q)⟩
theorem pw_imp {t t' : TT} (h : PW X e t) (i : ∀ σ H Q, t' σ H Q → t σ H Q) : PW X e t' := ⟨fun w pins s σ H Q I q => h.run w pins s σ H Q I (i σ H Q q)⟩
theorem pa_imp {t t' : TA} (h : PA X es t) (i : ∀ σ H Q, t' σ H Q → t σ H Q) : PA X es t' := ⟨fun w pins s σ H Q I q => h.run w pins s σ H Q I (i σ H Q q)⟩
/-- a name -/
theorem e_var {i : Nat} {x : Str} (hN : X.N[i]? = some x) (hv : Vis X.env.scope x) (hd : (x == ("__debug__" : Str)) = false) (hcd : (x == ("__classdict__" : Str)) = false) :
    PE X (.Name x pos) (tE X.K ca W fun env M => getV env i M) := by
  refine pe_imp (pe_var hN hv hd hcd) fun σ H Q ⟨p, F, env, M, rm, re, q⟩ => ?_
  have q : At X.K ca W σ (Rel X.K) p F H (getV env i M) Q := q
  unfold getV at q
  split at q
  · rename_i d z
    obtain ⟨v, h1, h2⟩ := re.get i d z
    exact ⟨v, h1, q.ok_ rm h2⟩
  · obtain ⟨r, e, _⟩ := q; cases e
/-- a constant -/
theorem e_con {v : V} {d : D} (h : PE X e (tC v)) (r : ∀ p F, Rel X.K p F v d) : PE X e (tE X.K ca W fun _ M => ok d M) :=
  pe_imp h fun σ H Q ⟨p, F, env, M, rm, re, q⟩ => q.ok_ rm (r p F)
theorem e_op (o : Op) (ha : PE X a (tE X.K ca W f)) (hb : PE X b (tE X.K ca W g)) :
    PE X (.BinOp a (pyOp o) b pos) (tE X.K ca W fun env M => (f env M).bind fun x M => (g env M).bind fun y M => lift (eOp M o x y) M) := by
  refine pe_imp (pe_op (op_D o) ha hb) fun σ H Q ⟨p, F, env, M, rm, re, q⟩ => ?_
  refine ⟨p, F, env, M, rm, re, q.bind.imp fun x H1 ⟨p1, F1, M1, d, s1, rm1, r1, q1⟩ => ?_⟩
  refine ⟨p1, F1, env, M1, rm1, re.mono s1.toLe, q1.bind.imp fun y H2 ⟨p2, F2, M2, e, s2, rm2, r2, q2⟩ => ?_⟩
  obtain ⟨r, e1, q3⟩ := q2.lift_
  exact ⟨p2, F2, M2, d, e, r, rm2, r1.mono s2.toLe, r2, e1, q3⟩
theorem e_neg (ha : PE X a (tE X.K ca W f)) : PE X (.UnaryOp .USub a pos) (tE X.K ca W fun env M => (f env M).bind fun x M => negI x M) := by
  refine pe_imp (pe_un un_neg ha) fun σ H Q ⟨p, F, env, M, rm, re, q⟩ => ?_
  refine ⟨p, F, env, M, rm, re, q.bind.imp fun x H1 ⟨p1, F1, M1, d, s1, rm1, r1, q1⟩ => ?_⟩
  cases r1 with
  | int i => exact ⟨i, rfl, q1.ok_ rm1 (.int _)⟩
  | _ => obtain ⟨r, e, _⟩ := q1; cases e
theorem e_cmp (o : Co) (hu : X.A.units + 65 < cLine) (ha : PE X a (tE X.K ca W f)) (hb : PE X b (tE X.K ca W g)) (hm : behindInMarks (pyCo o) b = false) :
    PE X (.Compare a [pyCo o] [b] pos) (tE X.K ca W fun env M => (f env M).bind fun x M => (g env M).bind fun y M => lift ((eCo o x y).map .bl) M) := by
  refine pe_imp (pe_cmpR (co_D o hu) ha hb hm) fun σ H Q ⟨p, F, env, M, rm, re, q⟩ => ?_
  refine ⟨p, F, env, M, rm, re, q.bind.imp fun x H1 ⟨p1, F1, M1, d, s1, rm1, r1, q1⟩ => ?_⟩
  refine ⟨p1, F1, env, M1, rm1, re.mono s1.toLe, q1.bind.imp fun y H2 ⟨p2, F2, M2, e, s2, rm2, r2, q2⟩ => ?_⟩
  obtain ⟨r, e1, q3⟩ := q2.lift_
  exact ⟨p2, F2, M2, d, e, r, rm2, r1.mono s2.toLe, r2, e1, q3⟩
theorem Rel.isNon {K : PySem.W.Frag} {p : Ph} {F : Hp} {v : V} {d : D} (r : Rel K p F v d) : decide (v = .non) = Rf.isNon d := by
  cases r <;> simp [Rf.isNon]
theorem e_isN {j : Nat} {pos' : Pos} (ha : PE X a (tE X.K ca W f)) : PE X (.Compare a [.Is] [.Constant .none j pos'] pos) (tE X.K ca W fun env M => (f env M).bind fun x M => ok (.bl (Rf.isNon x)) M) := by
  refine pe_imp (pe_cmp (pc_isN ha)) fun σ H Q ⟨p, F, env, M, rm, re, q⟩ => ?_
  refine ⟨p, F, env, M, rm, re, q.bind.imp fun x H1 ⟨p1, F1, M1, d, s1, rm1, r1, q1⟩ => ?_⟩
  show Q (.bl (decide (x = .non))) H1
  rw [r1.isNon]
  exact q1.ok_ rm1 (.bl _)
theorem e_notN {j : Nat} {pos' : Pos} (ha : PE X a (tE X.K ca W f)) : PE X (.Compare a [.IsNot] [.Constant .none j pos'] pos) (tE X.K ca W fun env M => (f env M).bind fun x M => ok (.bl (!Rf.isNon x)) M) := by
  refine pe_imp (pe_cmp (pc_notN ha)) fun σ H Q ⟨p, F, env, M, rm, re, q⟩ => ?_
  refine ⟨p, F, env, M, rm, re, q.bind.imp fun x H1 ⟨p1, F1, M1, d, s1, rm1, r1, q1⟩ => ?_⟩
  show Q (.bl (!decide (x = .non))) H1
  rw [r1.isNon]
  exact q1.ok_ rm1 (.bl _)

/-! ### tests -/
abbrev eqB : Ph → Hp → Bool → Bool → Prop := fun _ _ b d => b = d
abbrev tT (K : PySem.W.Frag) (ca : Nat → Addr) (W : WX) (f : Env → Mem → Res D) : TT := tG K ca W eqB (fun env M => asB (f env M))
theorem At.toB {K : PySem.W.Frag} {σ : L2.St} {p : Ph} {F H : Hp} {r : Res D} {Q : Bool → Hp → Prop} (h : At K ca W σ eqB p F H (asB r) Q) : At K ca W σ (Rel K) p F H r fun v H1 => ∃ b, v = .bl b ∧ Q b H1 := by
  refine (At.bind (rel1 := Rel K) h).imp fun x H1 ⟨p1, F1, M1, d, s1, rm1, r1, q1⟩ => ?_
  cases r1 with
  | bl b => exact ⟨b, rfl, q1.ok_ rm1 rfl⟩
  | _ => obtain ⟨r, e, _⟩ := q1; cases e
theorem t_val (he : PE X e (tE X.K ca W f)) (hw : ∀ whole, isTrue e X.env whole = (do let v ← whole; standAt e.pos; holding [v] (truthy v))) : PT X e (tT X.K ca W f) :=
  pt_imp (pt_val he hw) fun σ H Q ⟨p, F, env, M, rm, re, q⟩ => ⟨p, F, env, M, rm, re, q.toB⟩
theorem t_cmp (o : Co) (hu : X.A.units + 65 < cLine) (ha : PE X a (tE X.K ca W f)) (hb : PE X b (tE X.K ca W g)) (hm : behindInMarks (pyCo o) b = false) :
    PT X (.Compare a [pyCo o] [b] pos) (tT X.K ca W fun env M => (f env M).bind fun x M => (g env M).bind fun y M => lift ((eCo o x y).map .bl) M) := by
  refine pt_imp (pt_cmpR (co_D o hu) ha hb hm) fun σ H Q ⟨p, F, env, M, rm, re, q⟩ => ?_
  refine ⟨p, F, env, M, rm, re, q.toB.bind.imp fun x H1 ⟨p1, F1, M1, d, s1, rm1, r1, q1⟩ => ?_⟩
  refine ⟨p1, F1, env, M1, rm1, re.mono s1.toLe, q1.bind.imp fun y H2 ⟨p2, F2, M2, e, s2, rm2, r2, q2⟩ => ?_⟩
  obtain ⟨r, e1, q3⟩ := q2.lift_
  exact ⟨p2, F2, M2, d, e, r, rm2, r1.mono s2.toLe, r2, e1, q3⟩
theorem t_isN {j : Nat} {pos' : Pos} (ha : PE X a (tE X.K ca W f)) : PT X (.Compare a [.Is] [.Constant .none j pos'] pos) (tT X.K ca W fun env M => (f env M).bind fun x M => ok (.bl (Rf.isNon x)) M) := by
  refine pt_imp (pt_cmp (pc_isN ha)) fun σ H Q ⟨p, F, env, M, rm, re, q⟩ => ?_
  refine ⟨p, F, env, M, rm, re, q.toB.bind.imp fun x H1 ⟨p1, F1, M1, d, s1, rm1, r1, q1⟩ => ?_⟩
  refine ⟨decide (x = .non), rfl, ?_⟩
  rw [r1.isNon]
  obtain ⟨b, e, q⟩ := q1.ok_ rm1 (.bl _)
  cases e
  exact q
theorem t_notN {j : Nat} {pos' : Pos} (ha : PE X a (tE X.K ca W f)) : PT X (.Compare a [.IsNot] [.Constant .none j pos'] pos) (tT X.K ca W fun env M => (f env M).bind fun x M => ok (.bl (!Rf.isNon x)) M) := by
  refine pt_imp (pt_cmp (pc_notN ha)) fun σ H Q ⟨p, F, env, M, rm, re, q⟩ => ?_
  refine ⟨p, F, env, M, rm, re, q.toB.bind.imp fun x H1 ⟨p1, F1, M1, d, s1, rm1, r1, q1⟩ => ?_⟩
  refine ⟨!decide (x = .non), rfl, ?_⟩
  rw [r1.isNon]
  obtain ⟨b, e, q⟩ := q1.ok_ rm1 (.bl _)
  cases e
  exact q
/-- the readings of a chain -/
theorem chain_r {p q : Co} {σ : L2.St} {H : Hp} {Q : VK} {ph : Ph} {F : Hp} {env : Env} {M : Mem} (rm : RM X.K ph F M H) (re : RE X.K ph F env σ)
    (h3 : At X.K ca W σ (Rel X.K) ph F H ((f env M).bind fun x M => (g env M).bind fun y M => (lift (eCo p x y) M).bind fun t M => if t then (h env M).bind fun z M => lift ((eCo q y z).map .bl) M else ok (.bl false) M) Q) :
    tChain (rB X.K (gCo p)) (rB X.K (gCo q)) (tE X.K ca W f) (tE X.K ca W g) (tE X.K ca W h) σ H Q := by
  refine ⟨ph, F, env, M, rm, re, h3.bind.imp fun x H1 ⟨p1, F1, M1, d, s1, rm1, r1, q1⟩ => ?_⟩
  refine ⟨p1, F1, env, M1, rm1, re.mono s1.toLe, q1.bind.imp fun y H2 ⟨p2, F2, M2, e, s2, rm2, r2, q2⟩ => ?_⟩
  have re2 := (re.mono s1.toLe).mono s2.toLe
  cases z : eCo p d e with
  | none => rw [z] at q2; obtain ⟨r, e, _⟩ := q2; cases e
  | some t =>
    rw [z] at q2
    refine ⟨p2, F2, M2, d, e, .bl t, rm2, r1.mono s2.toLe, r2, by unfold gCo; rw [z]; rfl, fun p3 F3 H3 v s3 rm3 r3 => ?_⟩
    cases r3
    refine ⟨t, rfl, ?_⟩
    cases t with
    | false =>
      rw [if_neg Bool.false_ne_true]
      obtain ⟨r, e9, q9⟩ := q2
      cases e9
      exact q9 p3 F3 H3 _ s3 rm3 (.bl false)
    | true =>
      rw [if_pos rfl]
      have q3 : At X.K ca W σ (Rel X.K) p3 F3 H3 ((h env M2).bind fun z M => lift ((eCo q e z).map .bl) M) Q := by
        obtain ⟨r, e9, q9⟩ := q2
        refine ⟨r, e9, ?_⟩
        cases r with
        | ok a M => exact fun p' F' H' v s => q9 p' F' H' v (s3.trans s)
        | er x M => exact fun p' F' H' c d s => q9 p' F' H' c d (s3.trans s)
      refine ⟨p3, F3, env, M2, rm3, re2.mono s3.toLe, q3.bind.imp fun w H4 ⟨p4, F4, M4, u, s4, rm4, r4, q4⟩ => ?_⟩
      obtain ⟨r, e1, q5⟩ := q4.lift_
      exact ⟨p4, F4, M4, e, u, r, rm4, (r2.mono s3.toLe).mono s4.toLe, r4, e1, q5⟩
theorem e_chain {p q : Co} (hu : X.A.units + 65 < cLine) (ha : PE X a (tE X.K ca W f)) (hb : PE X b (tE X.K ca W g)) (hc : PE X c (tE X.K ca W h)) (hm : lastMarks [pyCo p, pyCo q] [b, c] = false) :
    PE X (.Compare a [pyCo p, pyCo q] [b, c] pos) (tE X.K ca W fun env M => (f env M).bind fun x M => (g env M).bind fun y M => (lift (eCo p x y) M).bind fun t M => if t then (h env M).bind fun z M => lift ((eCo q y z).map .bl) M else ok (.bl false) M) :=
  pe_imp (pe_chain (co_D p hu) (co_D q hu) ha hb hc hm) fun σ H Q ⟨ph, F, env, M, rm, re, h3⟩ => chain_r rm re h3
theorem t_chain {p q : Co} (hu : X.A.units + 65 < cLine) (ha : PE X a (tE X.K ca W f)) (hb : PE X b (tE X.K ca W g)) (hc : PE X c (tE X.K ca W h)) (hm : lastMarks [pyCo p, pyCo q] [b, c] = false) :
    PT X (.Compare a [pyCo p, pyCo q] [b, c] pos) (tT X.K ca W fun env M => (f env M).bind fun x M => (g env M).bind fun y M => (lift (eCo p x y) M).bind fun t M => if t then (h env M).bind fun z M => lift ((eCo q y z).map .bl) M else ok (.bl false) M) :=
  pt_imp (pt_chain (co_D p hu) (co_D q hu) ha hb hc hm) fun σ H Q ⟨ph, F, env, M, rm, re, h3⟩ => chain_r rm re h3.toB
/-- and, or, not -/
theorem asB_bind {α : Type} {r : Res α} {k : α → Mem → Res D} : asB (r.bind k) = r.bind fun x M => asB (k x M) := by
  cases r with
  | none => rfl
  | some r => cases r <;> rfl
theorem asB_if {t : Bool} {r s : Res D} : asB (if t = true then r else s) = if t = true then asB r else asB s := by cases t <;> rfl
theorem At.if_ {K : PySem.W.Frag} {α β : Type} {rel : Ph → Hp → β → α → Prop} {σ : L2.St} {p : Ph} {F H : Hp} {t : Bool} {r s : Res α} {Q : β → Hp → Prop} (h : At K ca W σ rel p F H (if t = true then r else s) Q) :
    if t = true then At K ca W σ rel p F H r Q else At K ca W σ rel p F H s Q := by cases t <;> exact h
theorem e_and {rest : List Expr} {pos' : Pos} (ha : PE X a (tE X.K ca W f)) (hb : PE X (.BoolOp .And (b :: rest) pos) (tE X.K ca W g)) :
    PE X (.BoolOp .And (a :: b :: rest) pos) (tE X.K ca W fun env M => (asB (f env M)).bind fun t M => if t then g env M else ok (.bl false) M) := by
  refine pe_imp (pe_and ha hb) fun σ H Q ⟨p, F, env, M, rm, re, q⟩ => ?_
  refine ⟨p, F, env, M, rm, re, (At.toB (q.bind (rel1 := eqB))).imp fun x H1 ⟨t, e, p1, F1, M1, d, s1, rm1, r1, q1⟩ => ?_⟩
  subst e
  cases r1
  refine ⟨t, rfl, ?_⟩
  cases t with
  | true => exact ⟨p1, F1, env, M1, rm1, re.mono s1.toLe, q1⟩
  | false => exact q1.ok_ rm1 (.bl false)
theorem e_or {rest : List Expr} (ha : PE X a (tE X.K ca W f)) (hb : PE X (.BoolOp .Or (b :: rest) pos) (tE X.K ca W g)) :
    PE X (.BoolOp .Or (a :: b :: rest) pos) (tE X.K ca W fun env M => (asB (f env M)).bind fun t M => if t then ok (.bl true) M else g env M) := by
  refine pe_imp (pe_or ha hb) fun σ H Q ⟨p, F, env, M, rm, re, q⟩ => ?_
  refine ⟨p, F, env, M, rm, re, (At.toB (q.bind (rel1 := eqB))).imp fun x H1 ⟨t, e, p1, F1, M1, d, s1, rm1, r1, q1⟩ => ?_⟩
  subst e
  cases r1
  refine ⟨t, rfl, ?_⟩
  cases t with
  | true => exact q1.ok_ rm1 (.bl true)
  | false => exact ⟨p1, F1, env, M1, rm1, re.mono s1.toLe, q1⟩
theorem e_one {op : BoolOp} (ha : PE X a (tE X.K ca W f)) : PE X (.BoolOp op [a] pos) (tE X.K ca W f) := pe_one ha
theorem e_not (ha : PE X a (tE X.K ca W f)) : PE X (.UnaryOp .Not a pos) (tE X.K ca W fun env M => (asB (f env M)).bind fun t M => ok (.bl (!t)) M) := by
  refine pe_imp (pe_not ha) fun σ H Q ⟨p, F, env, M, rm, re, q⟩ => ?_
  refine ⟨p, F, env, M, rm, re, (At.toB (q.bind (rel1 := eqB))).imp fun x H1 ⟨t, e, p1, F1, M1, d, s1, rm1, r1, q1⟩ => ?_⟩
  subst e
  cases r1
  exact ⟨t, rfl, q1.ok_ rm1 (.bl _)⟩
theorem tru_of {K : PySem.W.Frag} {p : Ph} {F H : Hp} {x : V} {d : D} {t : Bool} (r : Rel K p F x d) (h : notD d = some t) : TruV K x H (!t) := by
  cases r <;> first | (cases h; done) | skip
  case bl b => cases h; exact Bool.not_not b
  case int i => cases h; exact Bool.not_not _
theorem e_notV (ha : PE X a (tE X.K ca W f)) : PE X (.UnaryOp .Not a pos) (tE X.K ca W fun env M => (f env M).bind fun x M => lift ((notD x).map .bl) M) := by
  refine pe_imp (pe_notT ha) fun σ H Q ⟨p, F, env, M, rm, re, q⟩ => ?_
  refine ⟨p, F, env, M, rm, re, q.bind.imp fun x H1 ⟨p1, F1, M1, d, s1, rm1, r1, q1⟩ => ?_⟩
  obtain ⟨r, e1, q3⟩ := q1.lift_
  cases z : notD d with
  | none => rw [z] at e1; cases e1
  | some t =>
    rw [z] at e1
    cases e1
    refine ⟨!t, tru_of r1 z, ?_⟩
    rw [Bool.not_not]
    exact q3 _ _ _ _ (Step.refl ..) rm1 (.bl _)
theorem t_notV (ha : PE X a (tE X.K ca W f)) (he : ∀ whole, isTrue a X.env whole = (do let v ← whole; standAt a.pos; holding [v] (truthy v))) : PT X (.UnaryOp .Not a pos) (tT X.K ca W fun env M => (f env M).bind fun x M => lift ((notD x).map .bl) M) := by
  refine pt_imp (pt_not (pt_truth ha he)) fun σ H Q ⟨p, F, env, M, rm, re, q⟩ => ?_
  refine ⟨p, F, env, M, rm, re, q.toB.bind.imp fun x H1 ⟨p1, F1, M1, d, s1, rm1, r1, q1⟩ => ?_⟩
  obtain ⟨r, e1, q3⟩ := q1.lift_
  cases z : notD d with
  | none => rw [z] at e1; cases e1
  | some t =>
    rw [z] at e1
    cases e1
    refine ⟨!t, tru_of r1 z, ?_⟩
    obtain ⟨b, e, q⟩ := q3 _ _ _ _ (Step.refl ..) rm1 (.bl _)
    cases e
    rw [Bool.not_not]
    exact q
theorem t_and {rest : List Expr} (ha : PT X a (tT X.K ca W f)) (hb : PW X (.BoolOp .And (b :: rest) pos) (tT X.K ca W g)) :
    PW X (.BoolOp .And (a :: b :: rest) pos) (tT X.K ca W fun env M => (asB (f env M)).bind fun t M => if t then g env M else ok (.bl false) M) := by
  refine pw_imp (pw_and ha hb) fun σ H Q ⟨p, F, env, M, rm, re, q⟩ => ?_
  have q : At X.K ca W σ eqB p F H (asB ((asB (f env M)).bind fun t M => if t then g env M else ok (.bl false) M)) Q := q
  rw [asB_bind] at q
  refine ⟨p, F, env, M, rm, re, (q.bind (rel1 := eqB)).imp fun t H1 ⟨p1, F1, M1, d, s1, rm1, r1, q1⟩ => ?_⟩
  cases r1
  rw [asB_if] at q1
  cases t with
  | true => exact ⟨p1, F1, env, M1, rm1, re.mono s1.toLe, q1⟩
  | false => exact q1.ok_ rm1 rfl
theorem t_or {rest : List Expr} (ha : PT X a (tT X.K ca W f)) (hb : PW X (.BoolOp .Or (b :: rest) pos) (tT X.K ca W g)) :
    PW X (.BoolOp .Or (a :: b :: rest) pos) (tT X.K ca W fun env M => (asB (f env M)).bind fun t M => if t then ok (.bl true) M else g env M) := by
  refine pw_imp (pw_or ha hb) fun σ H Q ⟨p, F, env, M, rm, re, q⟩ => ?_
  have q : At X.K ca W σ eqB p F H (asB ((asB (f env M)).bind fun t M => if t then ok (.bl true) M else g env M)) Q := q
  rw [asB_bind] at q
  refine ⟨p, F, env, M, rm, re, (q.bind (rel1 := eqB)).imp fun t H1 ⟨p1, F1, M1, d, s1, rm1, r1, q1⟩ => ?_⟩
  cases r1
  rw [asB_if] at q1
  cases t with
  | true => exact q1.ok_ rm1 rfl
  | false => exact ⟨p1, F1, env, M1, rm1, re.mono s1.toLe, q1⟩
theorem t_not (ha : PT X a (tT X.K ca W f)) : PT X (.UnaryOp .Not a pos) (tT X.K ca W fun env M => (asB (f env M)).bind fun t M => ok (.bl (!t)) M) := by
  refine pt_imp (pt_not ha) fun σ H Q ⟨p, F, env, M, rm, re, q⟩ => ?_
  have q : At X.K ca W σ eqB p F H (asB ((asB (f env M)).bind fun t M => ok (.bl (!t)) M)) Q := q
  rw [asB_bind] at q
  refine ⟨p, F, env, M, rm, re, (q.bind (rel1 := eqB)).imp fun t H1 ⟨p1, F1, M1, d, s1, rm1, r1, q1⟩ => ?_⟩
  cases r1
  exact q1.ok_ rm1 rfl
theorem e_ite (hc : PT X c (tT X.K ca W f)) (ha : PE X a (tE X.K ca W g)) (hb : PE X b (tE X.K ca W h)) :
    PE X (.IfExp c a b pos) (tE X.K ca W fun env M => (asB (f env M)).bind fun t M => if t then g env M else h env M) := by
  refine pe_imp (pe_ifExp hc ha hb) fun σ H Q ⟨p, F, env, M, rm, re, q⟩ => ?_
  refine ⟨p, F, env, M, rm, re, (q.bind (rel1 := eqB)).imp fun t H1 ⟨p1, F1, M1, d, s1, rm1, r1, q1⟩ => ?_⟩
  cases r1
  cases t with
  | true => exact ⟨p1, F1, env, M1, rm1, re.mono s1.toLe, q1⟩
  | false => exact ⟨p1, F1, env, M1, rm1, re.mono s1.toLe, q1⟩
end
end Rf
end T_RfExpr
section T_RfExpr2
set_option Elab.async false
set_option linter.all false
set_option maxRecDepth 100000
set_option maxHeartbeats 1000000
/-! Rf: arguments, displays, calls, places -/
namespace Rf
open PySem PySem.Spec PyProof.Rows L2
def isStar : Expr → Bool
  | .Starred _ _ => true
  | _ => false
theorem star_cons {e : Expr} {es : List Expr} {env : PySem.Env} (h : isStar e = false) : starEach (e :: es) env = (false, eval e env) :: starEach es env := by
  cases e <;> first | rfl | (cases h)
def noStars (es : List Expr) : Bool := es.all fun e => !isStar e
theorem noStars_cons {e : Expr} {es : List Expr} (h : noStars (e :: es) = true) : isStar e = false ∧ noStars es = true := by
  have h := all_cons2 h
  exact ⟨by simpa using h.1, h.2⟩
theorem no_star_any {pos : Pos} {env : PySem.Env} : ∀ {es : List Expr}, noStars es = true → (backTo pos (starEach es env)).any (·.1) = false
  | [], _ => rfl
  | e :: es, h => by
    obtain ⟨h1, h2⟩ := noStars_cons h
    rw [star_cons h1]
    show (false || (backTo pos (starEach es env)).any (·.1)) = false
    rw [no_star_any h2]; rfl
section
variable {X : Cx} {ca : Nat → Addr} {W : WX} {e a b c : Expr} {es : List Expr} {f g h : Rf.Env → Mem → Res D} {fs : Rf.Env → Mem → Res (List D)} {pos : Pos}
theorem a_nil : PA X [] (tEs X.K ca W fun _ M => ok [] M) := pa_imp pa_nil fun σ H Q ⟨p, F, env, M, rm, re, q⟩ => q.ok_ rm .nil
theorem a_cons (hs : isStar e = false) (ha : PE X e (tE X.K ca W f)) (hr : PA X es (tEs X.K ca W fs)) :
    PA X (e :: es) (tEs X.K ca W fun env M => (f env M).bind fun x M => (fs env M).bind fun xs M => ok (x :: xs) M) := by
  refine pa_imp (pa_cons ha hr (star_cons hs)) fun σ H Q ⟨p, F, env, M, rm, re, q⟩ => ?_
  refine ⟨p, F, env, M, rm, re, q.bind.imp fun x H1 ⟨p1, F1, M1, d, s1, rm1, r1, q1⟩ => ?_⟩
  refine ⟨p1, F1, env, M1, rm1, re.mono s1.toLe, (q1.bind (rel1 := Rels X.K)).imp fun xs H2 ⟨p2, F2, M2, ds, s2, rm2, r2, q2⟩ => ?_⟩
  exact q2.ok_ rm2 (.cons (r1.mono s2.toLe) r2)
theorem At.cond {K : PySem.W.Frag} {α β : Type} {rel : Ph → Hp → β → α → Prop} {σ : L2.St} {p : Ph} {F H : Hp} {t : Prop} [Decidable t] {r : Res α} {Q : β → Hp → Prop} (h : At K ca W σ rel p F H (if t then r else none) Q) :
    t ∧ At K ca W σ rel p F H r Q := by
  by_cases ht : t
  · rw [if_pos ht] at h; exact ⟨ht, h⟩
  · rw [if_neg ht] at h; obtain ⟨r, e, _⟩ := h; cases e
theorem At.new {K : PySem.W.Frag} {σ : L2.St} {p : Ph} {F H : Hp} {d : D} {M : Mem} {Q : VK} (h : At K ca W σ (Rel K) p F H (ok d M) Q) :
    ∀ p' F' H' v, Step p F H p' F' H' → RM K p' F' M H' → Rel K p' F' v d → Q v H' := by
  obtain ⟨r, e, h⟩ := h
  cases e
  exact h
theorem e_tup {x1 : Nat} (ha : PA X es (tEs X.K ca W fs)) : PE X (.Tuple es x1 pos) (tE X.K ca W fun env M => (fs env M).bind fun xs M => if xs.length ≤ sizeLine then ok (.tup xs) M else none) := by
  refine pe_imp (pe_tup ha) fun σ H Q ⟨p, F, env, M, rm, re, q⟩ => ?_
  refine ⟨p, F, env, M, rm, re, (q.bind (rel1 := Rels X.K)).imp fun xs H1 ⟨p1, F1, M1, ds, s1, rm1, r1, q1⟩ => ?_⟩
  obtain ⟨hl, q2⟩ := q1.cond
  exact ⟨by rw [r1.length]; exact hl, fun z hz => new_tup rm1 hz r1 q2.new⟩
theorem e_lst (ha : PA X es (tEs X.K ca W fs)) : PE X (.List es pos) (tE X.K ca W fun env M => (fs env M).bind fun xs M => if xs.length ≤ sizeLine then ok (.lst xs) M else none) := by
  refine pe_imp (pe_lst ha) fun σ H Q ⟨p, F, env, M, rm, re, q⟩ => ?_
  refine ⟨p, F, env, M, rm, re, (q.bind (rel1 := Rels X.K)).imp fun xs H1 ⟨p1, F1, M1, ds, s1, rm1, r1, q1⟩ => ?_⟩
  obtain ⟨hl, q2⟩ := q1.cond
  exact ⟨by rw [r1.length]; exact hl, fun z hz => new_lst rm1 hz r1 q2.new⟩
/-- a new cell -/
theorem new_cell {K : PySem.W.Frag} {p : Ph} {F H : Hp} {M : Mem} {o : HO} {c : Cell} {q : Addr} {Q : VK} (rm : RM K p F M H) (hq : H q = none) (hc : CellOk K (phNew p M.length q) F (upd H q o) q c)
    (k : ∀ p' F' H' v, Step p F H p' F' H' → RM K p' F' (M ++ [c]) H' → Rel K p' F' v (.cell M.length) → Q v H') : Q (.ref q) (upd H q o) :=
  k (phNew p M.length q) F _ _ (step_cell rm hq) (rm_cell rm hq hc) (.cell phNew_same)
theorem At.newM {K : PySem.W.Frag} {σ : L2.St} {p : Ph} {F H : Hp} {d : D} {M : Mem} {Q : VK} (h : At K ca W σ (Rel K) p F H (ok d M) Q) :
    ∀ p' F' H' v, Step p F H p' F' H' → RM K p' F' M H' → Rel K p' F' v d → Q v H' := h.new
theorem e_lstM (ha : PA X es (tEs X.K ca W fs)) : PE X (.List es pos) (tE X.K ca W fun env M => (fs env M).bind fun xs M => if xs.length ≤ sizeLine ∧ D.lows 0 xs = true then ok (.cell M.length) (M ++ [.lst xs]) else none) := by
  refine pe_imp (pe_lst ha) fun σ H Q ⟨p, F, env, M, rm, re, q⟩ => ?_
  refine ⟨p, F, env, M, rm, re, (q.bind (rel1 := Rels X.K)).imp fun xs H1 ⟨p1, F1, M1, ds, s1, rm1, r1, q1⟩ => ?_⟩
  obtain ⟨hl, q2⟩ := q1.cond
  exact ⟨by rw [r1.length]; exact hl.1, fun z hz => new_cell (c := .lst ds) rm1 hz ⟨xs, upd_same, r1.mono (le_cell rm1), hl.2⟩ q2.new⟩
/-! ### places -/
def isSlice : Expr → Bool
  | .Slice _ _ _ _ => true
  | _ => false
theorem plain_ix (h : isSlice b = false) : PlainIx b := by
  intro o i
  cases b <;> first | rfl | (cases h)
theorem plain_nosl (h : isSlice b = false) : NoSl b := by
  intro o i
  cases b <;> first | rfl | (cases h)
theorem e_idx (hs : isSlice b = false) (ha : PE X a (tE X.K ca W f)) (hb : PE X b (tE X.K ca W g)) :
    PE X (.Subscript a b pos) (tE X.K ca W fun env M => (f env M).bind fun x M => (g env M).bind fun y M => lift (eIdx M x y) M) := by
  refine pe_imp (pe_ix ix_D ha hb (plain_ix hs)) fun σ H Q ⟨p, F, env, M, rm, re, q⟩ => ?_
  refine ⟨p, F, env, M, rm, re, q.bind.imp fun x H1 ⟨p1, F1, M1, d, s1, rm1, r1, q1⟩ => ?_⟩
  refine ⟨p1, F1, env, M1, rm1, re.mono s1.toLe, q1.bind.imp fun y H2 ⟨p2, F2, M2, e, s2, rm2, r2, q2⟩ => ?_⟩
  obtain ⟨r, e1, q3⟩ := q2.lift_
  exact ⟨p2, F2, M2, d, e, r, rm2, r1.mono s2.toLe, r2, e1, q3⟩
/-! ### dicts -/
theorem key_V {K : PySem.W.Frag} {p : Ph} {F : Hp} {v : V} {d : D} {k : Key} (r : Rel K p F v d) (h : keyOf d = some k) : v = kV k := by
  cases r <;> first | (cases h; done) | (cases h; rfl)
theorem find_rel {K : PySem.W.Frag} {p : Ph} {F : Hp} (k : Key) : ∀ (ks : List Key) (vs : List V) (ds : List D), Rels K p F vs ds →
    (lookD ks ds k = none ∧ valV (ks.zip vs) k = none) ∨ ∃ v d, lookD ks ds k = some d ∧ valV (ks.zip vs) k = some v ∧ Rel K p F v d
  | [], vs, ds, r => .inl ⟨by simp [lookD], by simp [valV]⟩
  | k0 :: ks, _, _, .nil => .inl ⟨by simp [lookD], by simp [valV]⟩
  | k0 :: ks, v :: vs, d :: ds, .cons h r => by
    by_cases e : k0 = k
    · refine .inr ⟨v, d, ?_, ?_, h⟩
      · simp [lookD, e]
      · simp [valV, e]
    · have ih := find_rel k ks vs ds r
      have e1 : lookD (k0 :: ks) (d :: ds) k = lookD ks ds k := by simp [lookD, e]
      have e2 : valV ((k0 :: ks).zip (v :: vs)) k = valV (ks.zip vs) k := by simp [valV, e]
      rw [e1, e2]
      exact ih
theorem get_of {K : PySem.W.Frag} {p : Ph} {F H : Hp} {M : Mem} {x y : V} {d e : D} {o : Option D} (rm : RM K p F M H) (r1 : Rel K p F x d) (r2 : Rel K p F y e) (h : eGet M d e = some o) :
    ∃ a ov, x = .ref a ∧ DGet H a y ov ∧ IsD H a ∧ ((o = none ∧ ov = none) ∨ ∃ v z, o = some z ∧ ov = some v ∧ Rel K p F v z) := by
  unfold eGet at h
  split at h
  · rename_i ks xs k e1 e2
    cases h
    have ek := key_V r2 e2
    subst ek
    have main : ∀ (a : Addr) (vs : List V), Rd H a (.dK (ks.zip vs)) → Rels K p F vs xs → ∃ ov, DGet H a (kV k) ov ∧ IsD H a ∧ ((lookD ks xs k = none ∧ ov = none) ∨ ∃ v z, lookD ks xs k = some z ∧ ov = some v ∧ Rel K p F v z) := by
      intro a vs hr rs
      refine ⟨valV (ks.zip vs) k, .inl ⟨_, k, hr, rfl, rfl⟩, .inl ⟨_, hr⟩, ?_⟩
      rcases find_rel k ks vs xs rs with ⟨q1, q2⟩ | ⟨v, z, q1, q2, q3⟩
      · exact .inl ⟨q1, q2⟩
      · exact .inr ⟨v, z, q1, q2, q3⟩
    cases r1 with
    | dic h1 hl s1 =>
      cases e1
      obtain ⟨ov, q⟩ := main _ _ (rm.rdk h1) s1
      exact ⟨_, ov, rfl, q⟩
    | @cell n a h1 =>
      have e1 : (match M[n]? with
        | some (.dic ks xs) => some (ks, xs)
        | _ => none) = some (ks, xs) := e1
      split at e1
      · rename_i hm
        cases e1
        obtain ⟨_, vs, q1, _, q2, _⟩ := rm.cell _ _ _ h1 hm (by intro z; cases z)
        obtain ⟨ov, q⟩ := main a vs (.inl q1) q2
        exact ⟨_, ov, rfl, q⟩
      · cases e1
    | _ => cases e1
  · cases h
theorem e_idxD (hs : isSlice b = false) (hu : X.A.units + 1 < cLine) (ha : PE X a (tE X.K ca W f)) (hb : PE X b (tE X.K ca W g)) :
    PE X (.Subscript a b pos) (tE X.K ca W fun env M => (f env M).bind fun x M => (g env M).bind fun y M => lift ((eGet M x y).bind id) M) := by
  refine pe_imp (pe_dget hu ha hb (plain_nosl hs)) fun σ H Q ⟨p, F, env, M, rm, re, q⟩ => ?_
  refine ⟨p, F, env, M, rm, re, q.bind.imp fun x H1 ⟨p1, F1, M1, d, s1, rm1, r1, q1⟩ => ?_⟩
  refine ⟨p1, F1, env, M1, rm1, re.mono s1.toLe, q1.bind.imp fun y H2 ⟨p2, F2, M2, e, s2, rm2, r2, q2⟩ => ?_⟩
  obtain ⟨r, e1, q3⟩ := q2.lift_
  cases z : eGet M2 d e with
  | none => rw [z] at e1; cases e1
  | some o =>
    rw [z] at e1
    have e1 : o = some r := e1
    obtain ⟨a, ov, rfl, q4, _, q5⟩ := get_of rm2 (r1.mono s2.toLe) r2 z
    rcases q5 with ⟨q5, _⟩ | ⟨v, w, q5, q6, q7⟩
    · rw [q5] at e1; cases e1
    · rw [q5] at e1; cases e1
      subst q6
      exact ⟨a, v, rfl, q4, q3 _ _ _ _ (Step.refl ..) rm2 q7⟩
theorem e_inD (hu : X.A.units + 1 < cLine) (ha : PE X a (tE X.K ca W f)) (hb : PE X b (tE X.K ca W g)) (hm : behindInMarks .In b = false) :
    PE X (.Compare a [.In] [b] pos) (tE X.K ca W fun env M => (f env M).bind fun y M => (g env M).bind fun x M => lift ((eGet M x y).map fun o => .bl o.isSome) M) := by
  refine pe_imp (pe_cmp (pc_din hu ha hb) hm) fun σ H Q ⟨p, F, env, M, rm, re, q⟩ => ?_
  refine ⟨p, F, env, M, rm, re, q.bind.imp fun x H1 ⟨p1, F1, M1, d, s1, rm1, r1, q1⟩ => ?_⟩
  refine ⟨p1, F1, env, M1, rm1, re.mono s1.toLe, q1.bind.imp fun y H2 ⟨p2, F2, M2, e, s2, rm2, r2, q2⟩ => ?_⟩
  obtain ⟨r, e1, q3⟩ := q2.lift_
  obtain ⟨o, e5, rfl⟩ := map_some e1
  obtain ⟨a, ov, rfl, q4, _, q5⟩ := get_of rm2 r2 (r1.mono s2.toLe) e5
  refine ⟨a, ov, rfl, q4, ?_⟩
  have : o.isSome = ov.isSome := by
    rcases q5 with ⟨q5, q6⟩ | ⟨v, w, q5, q6, q7⟩ <;> rw [q5, q6] <;> rfl
  rw [← this]
  exact q3 _ _ _ _ (Step.refl ..) rm2 (.bl _)
theorem e_ninD (hu : X.A.units + 1 < cLine) (ha : PE X a (tE X.K ca W f)) (hb : PE X b (tE X.K ca W g)) (hm : behindInMarks .NotIn b = false) :
    PE X (.Compare a [.NotIn] [b] pos) (tE X.K ca W fun env M => (f env M).bind fun y M => (g env M).bind fun x M => lift ((eGet M x y).map fun o => .bl (!o.isSome)) M) := by
  refine pe_imp (pe_cmp (pc_dnotin hu ha hb) hm) fun σ H Q ⟨p, F, env, M, rm, re, q⟩ => ?_
  refine ⟨p, F, env, M, rm, re, q.bind.imp fun x H1 ⟨p1, F1, M1, d, s1, rm1, r1, q1⟩ => ?_⟩
  refine ⟨p1, F1, env, M1, rm1, re.mono s1.toLe, q1.bind.imp fun y H2 ⟨p2, F2, M2, e, s2, rm2, r2, q2⟩ => ?_⟩
  obtain ⟨r, e1, q3⟩ := q2.lift_
  obtain ⟨o, e5, rfl⟩ := map_some e1
  obtain ⟨a, ov, rfl, q4, _, q5⟩ := get_of rm2 r2 (r1.mono s2.toLe) e5
  refine ⟨a, ov, rfl, q4, ?_⟩
  have : o.isSome = ov.isSome := by
    rcases q5 with ⟨q5, q6⟩ | ⟨v, w, q5, q6, q7⟩ <;> rw [q5, q6] <;> rfl
  rw [← this]
  exact q3 _ _ _ _ (Step.refl ..) rm2 (.bl _)
theorem t_inD (hu : X.A.units + 1 < cLine) (ha : PE X a (tE X.K ca W f)) (hb : PE X b (tE X.K ca W g)) (hm : behindInMarks .In b = false) :
    PT X (.Compare a [.In] [b] pos) (tT X.K ca W fun env M => (f env M).bind fun y M => (g env M).bind fun x M => lift ((eGet M x y).map fun o => .bl o.isSome) M) := by
  refine pt_imp (pt_cmp (pc_din hu ha hb) hm) fun σ H Q ⟨p, F, env, M, rm, re, q⟩ => ?_
  refine ⟨p, F, env, M, rm, re, q.toB.bind.imp fun x H1 ⟨p1, F1, M1, d, s1, rm1, r1, q1⟩ => ?_⟩
  refine ⟨p1, F1, env, M1, rm1, re.mono s1.toLe, q1.bind.imp fun y H2 ⟨p2, F2, M2, e, s2, rm2, r2, q2⟩ => ?_⟩
  obtain ⟨r, e1, q3⟩ := q2.lift_
  obtain ⟨o, e5, rfl⟩ := map_some e1
  obtain ⟨a, ov, rfl, q4, _, q5⟩ := get_of rm2 r2 (r1.mono s2.toLe) e5
  refine ⟨a, ov, rfl, q4, ?_⟩
  have : o.isSome = ov.isSome := by
    rcases q5 with ⟨q5, q6⟩ | ⟨v, w, q5, q6, q7⟩ <;> rw [q5, q6] <;> rfl
  rw [← this]
  exact q3 _ _ _ _ (Step.refl ..) rm2 (.bl _)
theorem t_ninD (hu : X.A.units + 1 < cLine) (ha : PE X a (tE X.K ca W f)) (hb : PE X b (tE X.K ca W g)) (hm : behindInMarks .NotIn b = false) :
    PT X (.Compare a [.NotIn] [b] pos) (tT X.K ca W fun env M => (f env M).bind fun y M => (g env M).bind fun x M => lift ((eGet M x y).map fun o => .bl (!o.isSome)) M) := by
  refine pt_imp (pt_cmp (pc_dnotin hu ha hb) hm) fun σ H Q ⟨p, F, env, M, rm, re, q⟩ => ?_
  refine ⟨p, F, env, M, rm, re, q.toB.bind.imp fun x H1 ⟨p1, F1, M1, d, s1, rm1, r1, q1⟩ => ?_⟩
  refine ⟨p1, F1, env, M1, rm1, re.mono s1.toLe, q1.bind.imp fun y H2 ⟨p2, F2, M2, e, s2, rm2, r2, q2⟩ => ?_⟩
  obtain ⟨r, e1, q3⟩ := q2.lift_
  obtain ⟨o, e5, rfl⟩ := map_some e1
  obtain ⟨a, ov, rfl, q4, _, q5⟩ := get_of rm2 r2 (r1.mono s2.toLe) e5
  refine ⟨a, ov, rfl, q4, ?_⟩
  have : o.isSome = ov.isSome := by
    rcases q5 with ⟨q5, q6⟩ | ⟨v, w, q5, q6, q7⟩ <;> rw [q5, q6] <;> rfl
  rw [← this]
  exact q3 _ _ _ _ (Step.refl ..) rm2 (.bl _)
/-! ### built-ins by name -/
theorem e_bi {id : String} {x : Str} {p : Pos} {gb : Mem → List D → Option D} (hc : CallR X (.builtin id) (rA X.K gb)) (hg : Gl X x) (hm : X.mg x = none) (hv : bootBuiltins x = some (.builtin id)) (ha : PA X (e :: es) (tEs X.K ca W fs))
    (hn : x ≠ "__name__") (hdb : (x == ("__debug__" : Str)) = false) (hs : noStars (e :: es) = true) :
    PE X (.Call (.Name x p) (e :: es) [] pos) (tE X.K ca W fun env M => (fs env M).bind fun xs M => lift (gb M xs) M) := by
  obtain ⟨s1, s2⟩ := noStars_cons hs
  refine pe_imp (pe_callB hc hg hm hv ha hn hdb (star_cons s1) (no_star_any s2)) fun σ H Q ⟨p, F, env, M, rm, re, q⟩ => ?_
  refine ⟨p, F, env, M, rm, re, (q.bind (rel1 := Rels X.K)).imp fun xs H1 ⟨p1, F1, M1, ds, s1, rm1, r1, q1⟩ => ?_⟩
  obtain ⟨r, e1, q3⟩ := q1.lift_
  exact ⟨p1, F1, M1, ds, r, rm1, r1, e1, q3⟩
theorem e_ty {T : String} {x : Str} {p : Pos} {gb : Mem → List D → Option D} (hc : CallR X (.type T) (rA X.K gb)) (hg : Gl X x) (hm : X.mg x = none) (hv : bootBuiltins x = some (.type T)) (ha : PA X (e :: es) (tEs X.K ca W fs))
    (hn : x ≠ "__name__") (hdb : (x == ("__debug__" : Str)) = false) (hs : noStars (e :: es) = true) :
    PE X (.Call (.Name x p) (e :: es) [] pos) (tE X.K ca W fun env M => (fs env M).bind fun xs M => lift (gb M xs) M) := by
  obtain ⟨s1, s2⟩ := noStars_cons hs
  refine pe_imp (pe_callTy hc hg hm hv ha hn hdb (star_cons s1) (no_star_any s2)) fun σ H Q ⟨p, F, env, M, rm, re, q⟩ => ?_
  refine ⟨p, F, env, M, rm, re, (q.bind (rel1 := Rels X.K)).imp fun xs H1 ⟨p1, F1, M1, ds, s1, rm1, r1, q1⟩ => ?_⟩
  obtain ⟨r, e1, q3⟩ := q1.lift_
  exact ⟨p1, F1, M1, ds, r, rm1, r1, e1, q3⟩

/-! ### defs -/
/-- what a def of the table promises -/
def spF (K : PySem.W.Frag) (ca : Nat → Addr) (cl : Calls) (f : Nat) : Sp := fun vs H Q E => ∃ p F M ds r, RM K p F M H ∧ Rels K p F vs ds ∧ cl f ds M = some r ∧ match r with
  | .ok d M' => ∀ p' F' H' v, Step p F H p' F' H' → RM K p' F' M' H' → Rel K p' F' v d → Q v H'
  | .er x M' => ∀ p' F' H' cls dd, Step p F H p' F' H' → RM K p' F' M' H' → ExcR K ca p' F' H' x cls dd → E cls dd H'
theorem spF_of {K : PySem.W.Frag} {cl : Calls} {i : Nat} {σ : L2.St} {p : Ph} {F H : Hp} {M : Mem} {vs : List V} {ds : List D} {Q : VK} (rm : RM K p F M H) (r : Rels K p F vs ds) (h : At K ca W σ (Rel K) p F H (cl i ds M) Q) :
    spF K ca cl i vs H Q (WE W σ) := by
  obtain ⟨r', e, h⟩ := h
  exact ⟨p, F, M, ds, r', rm, r, e, by cases r' <;> exact h⟩
theorem e_call {cl : Calls} {i k : Nat} {adr : Addr} {fd : FuncData} {ps : List Str} {dvs : List V} {ds : List Value} {dds : List D} {x : Str} {p : Pos}
    (F : FnOk X.prog X.w X.K X.mg X.base (L2.CX X.prog X.w) k adr fd ps (spF X.K ca cl i)) (hr : Room k X.A) (hg : Gl X x) (hm : X.mg x = some (.ref adr)) (hk : PySem.W.keepIn X.K (.ref adr) = true) (hb : Binds X.K fd ps ds) (hd : Vals dvs ds)
    (hdd : ∀ p F, Rels X.K p F dvs dds) (tk : Takes X W) (ha : PA X (e :: es) (tEs X.K ca W fs)) (hdb : (x == ("__debug__" : Str)) = false) (hs : noStars (e :: es) = true) :
    PE X (.Call (.Name x p) (e :: es) [] pos) (tE X.K ca W fun env M => (fs env M).bind fun xs M => cl i (xs ++ dds) M) := by
  obtain ⟨s1, s2⟩ := noStars_cons hs
  refine pe_imp (pe_callSD F hr hg hm hk hb hd (fun σ => passAt tk σ) ha hdb (star_cons s1) (no_star_any s2)) fun σ H Q ⟨p, F, env, M, rm, re, q⟩ => ?_
  exact ⟨p, F, env, M, rm, re, (q.bind (rel1 := Rels X.K)).imp fun xs H1 ⟨p1, F1, M1, ds, s1, rm1, r1, q1⟩ => spF_of rm1 (r1.append (hdd p1 F1)) q1⟩
theorem e_call0 {cl : Calls} {i k : Nat} {adr : Addr} {fd : FuncData} {ps : List Str} {dvs : List V} {ds : List Value} {dds : List D} {x : Str} {p : Pos}
    (F : FnOk X.prog X.w X.K X.mg X.base (L2.CX X.prog X.w) k adr fd ps (spF X.K ca cl i)) (hr : Room k X.A) (hg : Gl X x) (hm : X.mg x = some (.ref adr)) (hk : PySem.W.keepIn X.K (.ref adr) = true) (hb : Binds X.K fd ps ds) (hd : Vals dvs ds)
    (hdd : ∀ p F, Rels X.K p F dvs dds) (tk : Takes X W) (hdb : (x == ("__debug__" : Str)) = false) :
    PE X (.Call (.Name x p) [] [] pos) (tE X.K ca W fun _ M => cl i ([] ++ dds) M) := by
  refine ⟨fun pins s σ H Q I ⟨p, F1, env, M, rm, re, q⟩ => ?_⟩
  refine wpAny_Call_Name_kw (ld_glob I hg hm ?_ hdb)
  refine PySem.W.callWith_K0 I.kIn hk ?_
  exact run_fnSD (us := []) (vs := []) (E := WE W) F hr hb hd (passAt tk σ) I .nil (spF_of rm (hdd p F1) q)
end
end Rf
end T_RfExpr2
section T_RfExpr3
set_option Elab.async false
set_option linter.all false
set_option maxRecDepth 100000
set_option maxHeartbeats 1000000
/-! Rf: slices, methods, isinstance, ranges -/
namespace Rf
open PySem PySem.Spec PyProof.Rows L2
section
variable {X : Cx} {ca : Nat → Addr} {W : WX} {e a b c : Expr} {es : List Expr} {f g h : Rf.Env → Mem → Res D} {fs : Rf.Env → Mem → Res (List D)} {fo fo' : Rf.Env → Mem → Res (Option Int)} {pos : Pos}
theorem sl_D : SlR X (rSl X.K) := by
  intro pins s σ H x v vl vu lo hi sl Q I rx hs pl pu h
  obtain ⟨p, F, M, d, r, rm, r1, he, q⟩ := h
  cases r1 with
  | lst h1 s1 =>
    cases he
    exact sl_list pins s σ H _ v vl vu lo hi sl Q I rx hs pl pu ⟨_, _, rfl, .inl (.inl (rm.fro _ _ h1)), fun z hz => new_lst rm hz (s1.cutD lo hi) q⟩
  | tup h1 s1 =>
    cases he
    refine sl_tupA pins s σ H _ v vl vu lo hi sl Q I rx hs pl pu ⟨_, _, rfl, h1.sq rm, fun z => ?_, fun _ w hw => new_tup rm hw (s1.cutD lo hi) q⟩
    refine q _ _ _ _ (Step.refl ..) rm (.tup h1 ?_)
    have s2 := s1.cutD lo hi
    unfold cutV at s2
    rw [z.1, z.2, List.drop_zero, Nat.sub_zero, List.take_length] at s2
    exact s2
  | @str z =>
    have he : (if z.length ≤ sizeLine then some (D.str ⟨(Rf.cutD z.cps.toList lo hi).toArray⟩) else none) = some r := he
    split at he
    · rename_i hl
      cases he
      have e : (⟨(Rf.cutD z.cps.toList lo hi).toArray⟩ : Str) = cutS z lo hi := by
        unfold Rf.cutD cutS
        rw [Array.length_toList]
        rfl
      rw [e] at q
      exact sl_str pins s σ H _ v vl vu lo hi sl Q I rx hs pl pu ⟨z, rfl, hl, q _ _ _ _ (Step.refl ..) rm (.str _)⟩
    · cases he
  | _ => cases he
abbrev eqO : Ph → Hp → Option Int → Option Int → Prop := fun _ _ b d => b = d
abbrev tO (K : PySem.W.Frag) (ca : Nat → Addr) (W : WX) (f : Rf.Env → Mem → Res (Option Int)) : TO := tG K ca W eqO f
theorem po_imp {eo : Option Expr} {t t' : TO} (h : PO X eo t) (i : ∀ σ H Q, t' σ H Q → t σ H Q) : PO X eo t' := ⟨fun pins s σ H Q I q => h.run pins s σ H Q I (i σ H Q q)⟩
theorem o_no : PO X none (tO X.K ca W fun _ M => ok none M) := po_imp po_none fun σ H Q ⟨p, F, env, M, rm, re, q⟩ => q.ok_ rm rfl
theorem o_at (ha : PE X a (tE X.K ca W f)) : PO X (some a) (tO X.K ca W fun env M => (f env M).bind fun x M => someI x M) := by
  refine po_imp (po_some ha) fun σ H Q ⟨p, F, env, M, rm, re, q⟩ => ?_
  refine ⟨p, F, env, M, rm, re, (q.bind (rel1 := Rel X.K)).imp fun x H1 ⟨p1, F1, M1, d, s1, rm1, r1, q1⟩ => ?_⟩
  cases r1 with
  | int i => exact ⟨i, rfl, q1.ok_ rm1 rfl⟩
  | _ => obtain ⟨r, e, _⟩ := q1; cases e
theorem e_slc {lo hi : Option Expr} {p2 : Pos} (ha : PE X a (tE X.K ca W f)) (hl : PO X lo (tO X.K ca W fo)) (hh : PO X hi (tO X.K ca W fo')) :
    PE X (.Subscript a (.Slice lo hi none p2) pos) (tE X.K ca W fun env M => (f env M).bind fun x M => (fo env M).bind fun l M => (fo' env M).bind fun u M => lift (eSlc x l u) M) := by
  refine pe_imp (pe_slice sl_D ha hl hh) fun σ H Q ⟨p, F, env, M, rm, re, q⟩ => ?_
  refine ⟨p, F, env, M, rm, re, q.bind.imp fun x H1 ⟨p1, F1, M1, d, s1, rm1, r1, q1⟩ => ?_⟩
  refine ⟨p1, F1, env, M1, rm1, re.mono s1.toLe, (q1.bind (rel1 := eqO)).imp fun l H2 ⟨p2, F2, M2, l', s2, rm2, r2, q2⟩ => ?_⟩
  refine ⟨p2, F2, env, M2, rm2, (re.mono s1.toLe).mono s2.toLe, (q2.bind (rel1 := eqO)).imp fun u H3 ⟨p3, F3, M3, u', s3, rm3, r3, q3⟩ => ?_⟩
  cases r2
  cases r3
  obtain ⟨r, e1, q4⟩ := q3.lift_
  exact ⟨p3, F3, M3, d, r, rm3, (r1.mono s2.toLe).mono s3.toLe, e1, q4⟩
theorem At.move {K : PySem.W.Frag} {α β : Type} {rel : Ph → Hp → β → α → Prop} {σ : L2.St} {p p1 : Ph} {F H F1 H1 : Hp} {r : Res α} {Q : β → Hp → Prop} (s : Step p F H p1 F1 H1) (h : At K ca W σ rel p F H r Q) : At K ca W σ rel p1 F1 H1 r Q := by
  obtain ⟨r', e, h⟩ := h
  refine ⟨r', e, ?_⟩
  cases r' with
  | ok a M => exact fun p' F' H' v s2 => h p' F' H' v (s.trans s2)
  | er x M => exact fun p' F' H' c d s2 => h p' F' H' c d (s.trans s2)
/-- where the receiver of a method is no call of super -/
def plainRecv : Expr → Bool
  | .Name _ _ => true
  | .Constant _ _ _ => true
  | .Subscript _ _ _ => true
  | _ => false
theorem base_of {o : Expr} {m : Str} {env : PySem.Env} (h : plainRecv o = true) : attributeBase o m env (eval o env) = eval o env := by
  cases o <;> first | (cases h; done) | rfl
theorem lift_some {σ : L2.St} {K : PySem.W.Frag} {α β γ : Type} {rel : Ph → Hp → β → α → Prop} {p : Ph} {F H : Hp} {o : Option γ} {M : Mem} {k : γ → Mem → Res α} {Q : β → Hp → Prop} (h : At K ca W σ rel p F H ((lift o M).bind k) Q) :
    ∃ z, o = some z ∧ At K ca W σ rel p F H (k z M) Q := by
  cases o with
  | none => obtain ⟨r, e, _⟩ := h; cases e
  | some z => exact ⟨z, rfl, h⟩
theorem e_m1 {bi : Bi} {id : String} {name : Str} {apos : Pos} {gb : List D → Option D} (hb : ∀ M, eBi M bi = gb) (slot : Slot "str" name id) (hty : typeOf (.builtin id) = pure (.type "method_descriptor"))
    (hm : MtR X id (fun x xs => rA X.K (fun _ => gb) (x :: xs))) (hr : ∀ M x, recv M bi x = some () → ∃ z, x = .str z)
    (ha : PE X a (tE X.K ca W f)) (hes : PE X e (tE X.K ca W g)) (hs : isStar e = false) (hp : plainRecv a = true) (hl : (apos.endLine == pos.line) = true) :
    PE X (.Call (.Attribute a name apos) [e] [] pos) (tE X.K ca W fun env M => (f env M).bind fun x M => (lift (recv M bi x) M).bind fun _ M => ((g env M).bind fun y M => (ok [] M).bind fun ys M => ok (y :: ys) M).bind fun xs M => lift (eBi M bi (x :: xs)) M) := by
  refine pe_imp (pe_m1 slot hty hm ha hes (by rw [star_cons hs]; rfl) (base_of hp) hl) fun σ H Q ⟨p, F, env, M, rm, re, q⟩ => ?_
  refine ⟨p, F, env, M, rm, re, q.bind.imp fun x H1 ⟨p1, F1, M1, d, s1, rm1, r1, q1⟩ => ?_⟩
  obtain ⟨z, e1, q2⟩ := lift_some q1
  obtain ⟨w, e2⟩ := hr M1 d e1
  subst e2
  cases r1
  refine ⟨⟨w, rfl⟩, p1, F1, env, M1, rm1, re.mono s1.toLe, ?_⟩
  refine ((q2.bind (rel1 := Rels X.K)).bind (rel1 := Rel X.K) (Q := fun vs H2 => ∃ p1' F1' M1' d, Step p1 F1 H1 p1' F1' H2 ∧ RM X.K p1' F1' M1' H2 ∧ Rels X.K p1' F1' vs d ∧ At X.K ca W σ (Rel X.K) p1' F1' H2 (lift (eBi M1' bi (.str w :: d)) M1') Q)).imp fun y H2 ⟨p2, F2, M2, e, s2, rm2, r2, q3⟩ => ?_
  have q4 := (At.ok_ (v := [y]) rm2 q3 (.cons r2 .nil))
  obtain ⟨p3, F3, M3, ds, s3, rm3, r3, q5⟩ := q4
  obtain ⟨r, e5, q6⟩ := q5.lift_
  rw [hb] at e5
  exact ⟨p3, F3, M3, _, r, rm3, .cons (.str w) r3, e5, q6⟩
theorem e_m0 {bi : Bi} {id : String} {name : Str} {apos : Pos} {gb : List D → Option D} (hb : ∀ M, eBi M bi = gb) (slot : Slot "str" name id) (hty : typeOf (.builtin id) = pure (.type "method_descriptor"))
    (hm : MtR X id (fun x xs => rA X.K (fun _ => gb) (x :: xs))) (hr : ∀ M x, recv M bi x = some () → ∃ z, x = .str z)
    (ha : PE X a (tE X.K ca W f)) (hp : plainRecv a = true) (hl : (apos.endLine == pos.line) = true) :
    PE X (.Call (.Attribute a name apos) [] [] pos) (tE X.K ca W fun env M => (f env M).bind fun x M => (lift (recv M bi x) M).bind fun _ M => (ok [] M).bind fun xs M => lift (eBi M bi (x :: xs)) M) := by
  refine pe_imp (pe_m0 slot hty hm ha (base_of hp) hl) fun σ H Q ⟨p, F, env, M, rm, re, q⟩ => ?_
  refine ⟨p, F, env, M, rm, re, q.bind.imp fun x H1 ⟨p1, F1, M1, d, s1, rm1, r1, q1⟩ => ?_⟩
  obtain ⟨z, e1, q2⟩ := lift_some q1
  obtain ⟨w, e2⟩ := hr M1 d e1
  subst e2
  cases r1
  have q3 : At X.K ca W σ (Rel X.K) p1 F1 H1 (lift (eBi M1 bi [.str w]) M1) Q := q2
  obtain ⟨r, e5, q6⟩ := q3.lift_
  rw [hb] at e5
  exact ⟨⟨w, rfl⟩, p1, F1, M1, _, r, rm1, .cons (.str w) .nil, e5, q6⟩
/-- d.get(k, x) -/
theorem m2_of {o e h : Expr} {m : Str} {apos cpos : Pos} (hp : plainRecv o = true) (h1 : isStar e = false) (h2 : isStar h = false) (hl : (apos.endLine == cpos.line) = true) : M2 X o m apos e h cpos := by
  have e1 : starEach [e, h] X.env = [(false, eval e X.env), (false, eval h X.env)] := by rw [star_cons h1, star_cons h2]; rfl
  exact ⟨base_of hp, by rw [e1]; rfl, hl, by rw [e1]; rfl⟩
theorem e_get2 {e1 e2 : Expr} {apos : Pos} (hu : X.A.units + 1 < cLine) (ha : PE X a (tE X.K ca W f)) (h1 : PE X e1 (tE X.K ca W g)) (h2 : PE X e2 (tE X.K ca W h)) (s1 : isStar e1 = false) (s2 : isStar e2 = false) (hp : plainRecv a = true) (hl : (apos.endLine == pos.line) = true) :
    PE X (.Call (.Attribute a "get" apos) [e1, e2] [] pos) (tE X.K ca W fun env M => (f env M).bind fun x M => (lift (recv M .get2 x) M).bind fun _ M => ((g env M).bind fun y M => ((h env M).bind fun z M => (ok [] M).bind fun zs M => ok (z :: zs) M).bind fun ys M => ok (y :: ys) M).bind fun xs M => lift (eBi M .get2 (x :: xs)) M) := by
  refine pe_imp (pe_dget2 hu ha h1 h2 (m2_of hp s1 s2 hl)) fun σ H Q ⟨p, F, env, M, rm, re, q⟩ => ?_
  refine ⟨p, F, env, M, rm, re, q.bind.imp fun x H1 ⟨p1, F1, M1, d, st1, rm1, r1, q1⟩ => ?_⟩
  obtain ⟨z, e9, q2⟩ := lift_some q1
  have dic : ∃ a, x = .ref a ∧ IsD H1 a := by
    have e9 : (dicOf M1 d).map (fun _ => ()) = some z := e9
    cases q9 : dicOf M1 d with
    | none => rw [q9] at e9; cases e9
    | some kx =>
      have q8 : eGet M1 d (.int 0) = some (lookD kx.1 kx.2 (.inl 0)) := by unfold eGet; rw [q9]; rfl
      obtain ⟨a, ov, e1, _, e2, _⟩ := get_of rm1 r1 (Rel.int 0) q8
      exact ⟨a, e1, e2⟩
  obtain ⟨a, rfl, isd⟩ := dic
  refine ⟨a, rfl, isd, p1, F1, env, M1, rm1, re.mono st1.toLe, ?_⟩
  have q3 := (q2.bind (rel1 := Rels X.K)).bind (rel1 := Rel X.K)
  refine q3.imp fun y H2 ⟨p2, F2, M2, e, st2, rm2, r2, q4⟩ => ?_
  refine ⟨p2, F2, env, M2, rm2, (re.mono st1.toLe).mono st2.toLe, ?_⟩
  have q5 := (q4.bind (rel1 := Rels X.K)).bind (rel1 := Rel X.K)
  refine q5.imp fun w H3 ⟨p3, F3, M3, e', st3, rm3, r3, q6⟩ => ?_
  obtain ⟨p4, F4, M4, ds, st4, rm4, r4, q7⟩ := At.ok_ (v := [w]) rm3 q6 (.cons r3 .nil)
  have r2' := r2.mono st4.toLe
  obtain ⟨p5, F5, M5, ds5, st5, rm5, r5, q8⟩ := At.ok_ (v := y :: [w]) rm4 q7 (.cons r2' r4)
  obtain ⟨r, e6, q10⟩ := q8.lift_
  cases r5 with
  | @cons _ dy _ dr ry rr =>
    obtain ⟨vw, ew, rw'⟩ : ∃ dw, dr = [dw] ∧ Rel X.K p5 F5 w dw := by
      cases rr with
      | cons h r => cases r; exact ⟨_, rfl, h⟩
    subst ew
    have e6 : (eGet M5 d dy).map (fun o => o.getD vw) = some r := e6
    obtain ⟨o, e7, rfl⟩ := map_some e6
    have r1' := r1.mono st5.toLe
    obtain ⟨a', ov, e8, q11, _, q12⟩ := get_of rm5 r1' ry e7
    cases e8
    refine ⟨ov, q11, ?_⟩
    rcases q12 with ⟨e10, e11⟩ | ⟨v, z, e10, e11, r6⟩
    · rw [e10] at q10
      rw [e11]
      exact q10 _ _ _ _ (Step.refl ..) rm5 rw'
    · rw [e10] at q10
      rw [e11]
      exact q10 _ _ _ _ (Step.refl ..) rm5 r6
/-! ### ranges as lists -/
theorem prg_imp {t t' : L2.St → Hp → (Int → Int → Hp → Prop) → Prop} (h : PRg X e t) (i : ∀ σ H Q, t' σ H Q → t σ H Q) : PRg X e t' := fun pins s σ H Q I q => h pins s σ H Q I (i σ H Q q)
theorem rels_range {K : PySem.W.Frag} {p : Ph} {F : Hp} (lo hi : Int) : Rels K p F (rgV lo hi) (rangeD lo hi) := by
  unfold rgV rangeD
  induction (List.range (hi - lo).toNat) with
  | nil => exact .nil
  | cons x l ih => exact .cons (.int _) ih
theorem e_rngL {x y : Str} {p q pos2 : Pos} (hc : X.calm = true) (hg : Gl X "list") (hm : X.mg "list" = none) (hg2 : Gl X "range") (hm2 : X.mg "range" = none) (ha : PE X a (tE X.K ca W f)) (hs : isStar a = false) :
    PE X (.Call (.Name "list" p) [.Call (.Name "range" q) [a] [] pos2] [] pos) (tE X.K ca W fun env M => (f env M).bind fun x M => lift (bRange1 [x]) M) := by
  refine pe_imp (pe_listRg hc hg hm (prg_1 hg2 hm2 ha (star_cons hs))) fun σ H Q ⟨p, F, env, M, rm, re, q⟩ => ?_
  refine ⟨p, F, env, M, rm, re, q.bind.imp fun x H1 ⟨p1, F1, M1, d, s1, rm1, r1, q1⟩ => ?_⟩
  obtain ⟨r, e1, q4⟩ := q1.lift_
  cases r1 with
  | int n =>
    have e1 : (if small62 n = true ∧ n ≤ 1000 then some (D.lst (rangeD 0 n)) else none) = some r := e1
    split at e1
    · rename_i hn
      cases e1
      have h1 := hn.1
      unfold small62 at h1
      rw [Bool.and_eq_true] at h1
      have h2 := of_decide_eq_true h1.1
      have h3 := of_decide_eq_true h1.2
      exact ⟨n, rfl, ⟨by omega, by omega, h2, h3, by have := hn.2; omega⟩, fun z hz => new_lst rm1 hz (rels_range 0 n) q4⟩
    · cases e1
  | _ => cases e1
theorem e_rngL2 {p q pos2 : Pos} (hc : X.calm = true) (hg : Gl X "list") (hm : X.mg "list" = none) (hg2 : Gl X "range") (hm2 : X.mg "range" = none) (ha : PE X a (tE X.K ca W f)) (hb : PE X b (tE X.K ca W g)) (hs : isStar a = false) (hs2 : isStar b = false) :
    PE X (.Call (.Name "list" p) [.Call (.Name "range" q) [a, b] [] pos2] [] pos) (tE X.K ca W fun env M => (f env M).bind fun x M => (g env M).bind fun y M => lift (bRange2 [x, y]) M) := by
  refine pe_imp (pe_listRg hc hg hm (prg_2 hg2 hm2 ha hb (star_cons hs) (star_cons hs2) (by rw [star_cons hs2]; rfl))) fun σ H Q ⟨p, F, env, M, rm, re, q⟩ => ?_
  refine ⟨p, F, env, M, rm, re, q.bind.imp fun x H1 ⟨p1, F1, M1, d, s1, rm1, r1, q1⟩ => ?_⟩
  refine ⟨p1, F1, env, M1, rm1, re.mono s1.toLe, q1.bind.imp fun y H2 ⟨p2, F2, M2, e, s2, rm2, r2, q2⟩ => ?_⟩
  obtain ⟨r, e1, q4⟩ := q2.lift_
  have r1 := r1.mono s2.toLe
  cases r1 with
  | int m =>
    cases r2 with
    | int n =>
      have e1 : (if small62 m = true ∧ small62 n = true ∧ n - m ≤ 1000 then some (D.lst (rangeD m n)) else none) = some r := e1
      split at e1
      · rename_i hn
        cases e1
        obtain ⟨h1, h2, h3⟩ := hn
        unfold small62 at h1 h2
        rw [Bool.and_eq_true] at h1 h2
        exact ⟨m, n, rfl, rfl, ⟨of_decide_eq_true h1.1, of_decide_eq_true h1.2, of_decide_eq_true h2.1, of_decide_eq_true h2.2, by omega⟩, fun z hz => new_lst rm2 hz (rels_range m n) q4⟩
      · cases e1
    | _ => cases e1
  | _ => cases e1
/-! ### isinstance -/
def tyName : Ty → String
  | .int => "int" | .bool => "bool" | .str => "str" | .tuple => "tuple" | .list => "list"
/-- the model's own answers for the five types -/
theorem isi_kit (K : PySem.W.Frag) (t : Ty) : PySem.W.kitOne K (.type "NoneType") (.type (tyName t)) = some false ∧
    PySem.W.kitOne K (.type "bool") (.type (tyName t)) = some (decide (t = .bool ∨ t = .int)) ∧ PySem.W.kitOne K (.type "int") (.type (tyName t)) = some (decide (t = .int)) ∧
    PySem.W.kitOne K (.type "str") (.type (tyName t)) = some (decide (t = .str)) ∧ PySem.W.kitOne K (.type "list") (.type (tyName t)) = some (decide (t = .list)) ∧
    PySem.W.kitOne K (.type "tuple") (.type (tyName t)) = some (decide (t = .tuple)) ∧ PySem.W.kitOne K (.type "dict") (.type (tyName t)) = some false := by
  cases t <;> refine ⟨?_, ?_, ?_, ?_, ?_, ?_, ?_⟩ <;> first | rfl | decide +kernel
theorem isi_of {K : PySem.W.Frag} {p : Ph} {F H : Hp} {M : Mem} {x : V} {d : D} {t : Ty} {k : Bool} (rm : RM K p F M H) (r : Rel K p F x d) (h : isTy t d = some k) :
    ∃ u, TyX K H x u ∧ PySem.W.kitOne K u (.type (tyName t)) = some k := by
  obtain ⟨k1, k2, k3, k4, k5, k6, k7⟩ := isi_kit K t
  cases r with
  | non => exact ⟨_, .base .non, by rw [k1]; cases t <;> exact h⟩
  | bl b => exact ⟨_, .base (.bl b), by rw [k2]; cases t <;> exact h⟩
  | int b => exact ⟨_, .base (.int b), by rw [k3]; cases t <;> exact h⟩
  | str b => exact ⟨_, .base (.str b), by rw [k4]; cases t <;> exact h⟩
  | lst h1 s1 => exact ⟨_, .base (.lst (rm.fro _ _ h1)), by rw [k5]; cases t <;> exact h⟩
  | tup h1 s1 =>
    rcases h1 with h1 | ⟨o, its, n, e1, e2, _⟩
    · exact ⟨_, .base (.tup (rm.fro _ _ h1)), by rw [k6]; cases t <;> exact h⟩
    · exact ⟨_, .kTuple e1 e2, by rw [k6]; cases t <;> exact h⟩
  | dic h1 _ s1 =>
    rcases h1 with h1 | ⟨o, h1⟩
    · exact ⟨_, .base (.dK (rm.fro _ _ h1)), by rw [k7]; cases t <;> exact h⟩
    · exact ⟨_, .fDict (rm.fro _ _ h1), by rw [k7]; cases t <;> exact h⟩
  | cell _ => cases t <;> cases h
  | scr _ => cases t <;> cases h
def tyStr (t : Ty) : Str := Str.ofString (tyName t)
theorem boot_ty (t : Ty) : bootBuiltins (tyStr t) = some (.type (tyName t)) := by cases t <;> decide +kernel
theorem e_isi {t : Ty} {p q : Pos} {x : Str} (hx : x = tyStr t) (hg : Gl X "isinstance") (hm : X.mg "isinstance" = none) (hg2 : Gl X x) (hm2 : X.mg x = none) (ha : PE X a (tE X.K ca W f)) (hs : isStar a = false) :
    PE X (.Call (.Name "isinstance" p) [a, .Name x q] [] pos) (tE X.K ca W fun env M => (f env M).bind fun x M => lift ((isTy t x).map .bl) M) := by
  subst hx
  have hn : tyStr t ≠ "__name__" := by cases t <;> decide
  have hd : (tyStr t == ("__debug__" : Str)) = false := by cases t <;> decide
  have h2 : PE X (.Name (tyStr t) q) (tC (.ty (tyName t))) := pe_bltn hg2 hm2 (boot_ty t) rfl hn hd
  refine pe_imp (pe_callB call_isi hg hm (by decide +kernel) (pa_cons ha (pa_cons h2 pa_nil rfl) (star_cons hs)) (by decide) (by decide) (star_cons hs) rfl) fun σ H Q ⟨p, F, env, M, rm, re, q⟩ => ?_
  refine ⟨p, F, env, M, rm, re, q.bind.imp fun x H1 ⟨p1, F1, M1, d, s1, rm1, r1, q1⟩ => ?_⟩
  obtain ⟨r, e1, q4⟩ := q1.lift_
  obtain ⟨k, e2, rfl⟩ := map_some e1
  obtain ⟨u, t1, t2⟩ := isi_of rm1 r1 e2
  exact ⟨x, .ty (tyName t), u, .type (tyName t), k, rfl, .ty _, t1, t2, q4 _ _ _ _ (Step.refl ..) rm1 (.bl k)⟩
end
end Rf
end T_RfExpr3
section T_RfIter
set_option Elab.async false
set_option linter.all false
set_option maxRecDepth 100000
set_option maxHeartbeats 1000000
/-! Rf: what is walked; targets -/
namespace Rf
open PySem PySem.Spec PyProof.Rows L2
/-- the walk of known items -/
structure Wk (K : PySem.W.Frag) (p : Ph) (F : Hp) (J : It) (ds : List D) : Prop where
  go : ∀ p' F' H' M' i x, Le p F p' F' → RM K p' F' M' H' → ds[i]? = some x → J.go i H' ∧ ∀ v H2, J.yld i H' v H2 → ∃ F2, Step p' F' H' p' F2 H2 ∧ RM K p' F2 M' H2 ∧ Rel K p' F2 v x
  stop : ∀ p' F' H' M', Le p F p' F' → RM K p' F' M' H' → J.stop ds.length H'
theorem Wk.mono {K : PySem.W.Frag} {p p1 : Ph} {F F1 : Hp} {J : It} {ds : List D} (w : Wk K p F J ds) (l : Le p F p1 F1) : Wk K p1 F1 J ds :=
  ⟨fun p' F' H' M' i x l' => w.go p' F' H' M' i x (l.trans l'), fun p' F' H' M' l' => w.stop p' F' H' M' (l.trans l')⟩
section
variable {K : PySem.W.Frag} {p : Ph} {F : Hp}
theorem wk_list {a : Addr} {xs : List V} {ds : List D} (h : F a = some (.lst xs)) (r : Rels K p F xs ds) : Wk K p F (Itl K a) ds := by
  refine ⟨fun p' F' H' M' i x l rm e => ?_, fun p' F' H' M' l rm => ?_⟩
  · obtain ⟨v, h1, h2⟩ := r.get e
    have q : SqL K H' a xs := .inl (.inl (rm.fro _ _ (l.lst _ _ h)))
    refine ⟨⟨xs, v, q, h1⟩, fun w H2 ⟨e1, e2⟩ => ?_⟩
    subst e1
    have e3 := e2 xs q
    rw [h1] at e3; cases e3
    exact ⟨F', Step.refl .., rm, h2.mono l⟩
  · exact ⟨xs, .inl (.inl (rm.fro _ _ (l.lst _ _ h))), by rw [r.length]; exact Nat.le_refl _⟩
theorem wk_tup {a : Addr} {xs : List V} {ds : List D} (h : TupAt K F a xs) (r : Rels K p F xs ds) : Wk K p F (Itt K a) ds := by
  refine ⟨fun p' F' H' M' i x l rm e => ?_, fun p' F' H' M' l rm => ?_⟩
  · obtain ⟨v, h1, h2⟩ := r.get e
    have q : SqT K H' a xs := (h.mono l).sq rm
    refine ⟨⟨xs, v, q, h1⟩, fun w H2 ⟨e1, e2⟩ => ?_⟩
    subst e1
    have e3 := e2 xs q
    rw [h1] at e3; cases e3
    exact ⟨F', Step.refl .., rm, h2.mono l⟩
  · exact ⟨xs, (h.mono l).sq rm, by rw [r.length]; exact Nat.le_refl _⟩
theorem rangeD_len (lo hi : Int) : (rangeD lo hi).length = (hi - lo).toNat := by unfold rangeD; rw [List.length_map, List.length_range]
theorem rangeD_get {lo hi : Int} {i : Nat} {x : D} (h : (rangeD lo hi)[i]? = some x) : i < (hi - lo).toNat ∧ x = .int (lo + (i : Nat)) := by
  unfold rangeD at h
  rw [List.getElem?_map] at h
  by_cases hi' : i < (hi - lo).toNat
  · rw [List.getElem?_range hi'] at h
    cases h
    exact ⟨hi', rfl⟩
  · rw [List.getElem?_eq_none (by rw [List.length_range]; omega)] at h
    cases h
theorem wk_rng (lo hi : Int) : Wk K p F (Itr lo (hi - lo).toNat) (rangeD lo hi) := by
  refine ⟨fun p' F' H' M' i x l rm e => ?_, fun p' F' H' M' l rm => ?_⟩
  · obtain ⟨h1, rfl⟩ := rangeD_get e
    refine ⟨h1, fun v H2 ⟨e1, e2⟩ => ?_⟩
    subst e1 e2
    exact ⟨F', Step.refl .., rm, .int _⟩
  · show (hi - lo).toNat ≤ _
    rw [rangeD_len]; exact Nat.le_refl _
theorem enumD_len : ∀ (xs : List D) (n : Nat), (enumD n xs).length = xs.length
  | [], _ => rfl
  | _ :: xs, n => by unfold enumD; rw [List.length_cons, List.length_cons, enumD_len xs]
theorem enumD_get : ∀ (xs : List D) (n i : Nat) (y : D), (enumD n xs)[i]? = some y → ∃ x, xs[i]? = some x ∧ y = .tup [.int ((n + i : Nat) : Int), x]
  | [], _, _, _, h => by simp [enumD] at h
  | x :: xs, n, 0, y, h => by
    simp [enumD] at h
    exact ⟨x, rfl, h.symm⟩
  | x :: xs, n, i + 1, y, h => by
    have h : (enumD (n + 1) xs)[i]? = some y := by simpa [enumD] using h
    obtain ⟨z, h1, h2⟩ := enumD_get xs (n + 1) i y h
    refine ⟨z, by simpa using h1, ?_⟩
    rw [h2]
    have : n + 1 + i = n + (i + 1) := by omega
    rw [this]
theorem wk_enum {a : Addr} {xs : List V} {ds : List D} (h : F a = some (.lst xs)) (r : Rels K p F xs ds) : Wk K p F (Ite K a) (enumD 0 ds) := by
  refine ⟨fun p' F' H' M' i y l rm e => ?_, fun p' F' H' M' l rm => ?_⟩
  · obtain ⟨x, e0, rfl⟩ := enumD_get _ _ _ _ e
    obtain ⟨v, h1, h2⟩ := r.get e0
    have q : SqL K H' a xs := .inl (.inl (rm.fro _ _ (l.lst _ _ h)))
    refine ⟨⟨xs, v, q, h1⟩, fun w H2 ⟨T, x', e1, e2, e3, e4⟩ => ?_⟩
    have e5 := e4 xs q
    rw [h1] at e5; cases e5
    subst e1 e3
    refine ⟨_, step_new rm e2, rm_new rm e2, .tup (.inl upd_same) (.cons ?_ (.cons ((h2.mono l).mono (le_new (rm.free e2))) .nil))⟩
    rw [Nat.zero_add]
    exact .int _
  · rw [enumD_len]
    exact ⟨xs, .inl (.inl (rm.fro _ _ (l.lst _ _ h))), by rw [r.length]; exact Nat.le_refl _⟩
theorem zipD_len : ∀ (xs ys : List D), (zipD xs ys).length = min xs.length ys.length
  | [], _ => by simp [zipD]
  | _ :: _, [] => by simp [zipD]
  | _ :: xs, _ :: ys => by simp [zipD, zipD_len xs ys]
theorem zipD_get : ∀ (xs ys : List D) (i : Nat) (z : D), (zipD xs ys)[i]? = some z → ∃ x y, xs[i]? = some x ∧ ys[i]? = some y ∧ z = .tup [x, y]
  | [], _, _, _, h => by simp [zipD] at h
  | _ :: _, [], _, _, h => by simp [zipD] at h
  | x :: xs, y :: ys, 0, z, h => by
    simp [zipD] at h
    exact ⟨x, y, rfl, rfl, h.symm⟩
  | x :: xs, y :: ys, i + 1, z, h => by
    have h : (zipD xs ys)[i]? = some z := by simpa [zipD] using h
    obtain ⟨a, b, h1, h2, h3⟩ := zipD_get xs ys i z h
    exact ⟨a, b, by simpa using h1, by simpa using h2, h3⟩
theorem wk_zip {a b : Addr} {xs ys : List V} {ds es : List D} (h : F a = some (.lst xs)) (r : Rels K p F xs ds) (h' : F b = some (.lst ys)) (r' : Rels K p F ys es) : Wk K p F (Itz K a b) (zipD ds es) := by
  refine ⟨fun p' F' H' M' i z l rm e => ?_, fun p' F' H' M' l rm => ?_⟩
  · obtain ⟨x, y, e0, e0', rfl⟩ := zipD_get _ _ _ _ e
    obtain ⟨v, h1, h2⟩ := r.get e0
    obtain ⟨v', h1', h2'⟩ := r'.get e0'
    have q : SqL K H' a xs := .inl (.inl (rm.fro _ _ (l.lst _ _ h)))
    have q' : SqL K H' b ys := .inl (.inl (rm.fro _ _ (l.lst _ _ h')))
    refine ⟨⟨xs, ys, v, v', q, q', h1, h1'⟩, fun w H2 ⟨T, x', y', e1, e2, e3, e4, e4'⟩ => ?_⟩
    have e5 := e4 xs q
    rw [h1] at e5; cases e5
    have e5' := e4' ys q'
    rw [h1'] at e5'; cases e5'
    subst e1 e3
    exact ⟨_, step_new rm e2, rm_new rm e2, .tup (.inl upd_same) (.cons ((h2.mono l).mono (le_new (rm.free e2))) (.cons ((h2'.mono l).mono (le_new (rm.free e2))) .nil))⟩
  · rw [zipD_len]
    refine ⟨xs, ys, .inl (.inl (rm.fro _ _ (l.lst _ _ h))), .inl (.inl (rm.fro _ _ (l.lst _ _ h'))), ?_⟩
    rw [r.length, r'.length]; omega
theorem wk_zipT {a b : Addr} {xs ys : List V} {ds es : List D} (h : TupAt K F a xs) (r : Rels K p F xs ds) (h' : TupAt K F b ys) (r' : Rels K p F ys es) : Wk K p F (RZ.ItzT K a b) (zipD ds es) := by
  refine ⟨fun p' F' H' M' i z l rm e => ?_, fun p' F' H' M' l rm => ?_⟩
  · obtain ⟨x, y, e0, e0', rfl⟩ := zipD_get _ _ _ _ e
    obtain ⟨v, h1, h2⟩ := r.get e0
    obtain ⟨v', h1', h2'⟩ := r'.get e0'
    have q : SqT K H' a xs := (h.mono l).sq rm
    have q' : SqT K H' b ys := (h'.mono l).sq rm
    refine ⟨⟨xs, ys, v, v', q, q', h1, h1'⟩, fun w H2 ⟨T, x', y', e1, e2, e3, e4, e4'⟩ => ?_⟩
    have e5 := e4 xs q
    rw [h1] at e5; cases e5
    have e5' := e4' ys q'
    rw [h1'] at e5'; cases e5'
    subst e1 e3
    exact ⟨_, step_new rm e2, rm_new rm e2, .tup (.inl upd_same) (.cons ((h2.mono l).mono (le_new (rm.free e2))) (.cons ((h2'.mono l).mono (le_new (rm.free e2))) .nil))⟩
  · rw [zipD_len]
    refine ⟨xs, ys, (h.mono l).sq rm, (h'.mono l).sq rm, ?_⟩
    rw [r.length, r'.length]; omega
end
abbrev tI (K : PySem.W.Frag) (ca : Nat → Addr) (W : WX) (f : Rf.Env → Mem → Res (List D)) : TI := tG K ca W (Wk K) f
section
variable {X : Cx} {ca : Nat → Addr} {W : WX} {e a b c tg : Expr} {es : List Expr} {f g h : Rf.Env → Mem → Res D} {fs : Rf.Env → Mem → Res (List D)} {pos : Pos}
theorem pi_imp {t t' : TI} (h : PI X tg e t) (i : ∀ σ H Q, t' σ H Q → t σ H Q) : PI X tg e t' := ⟨fun pins s σ H Q I q => h.run pins s σ H Q I (i σ H Q q)⟩
theorem At.erI {K : PySem.W.Frag} {α β γ δ : Type} {rel : Ph → Hp → β → α → Prop} {rel1 : Ph → Hp → δ → γ → Prop} {σ : L2.St} {p : Ph} {F H : Hp} {x : Exn} {M : Mem} {Q : β → Hp → Prop} {Q' : δ → Hp → Prop}
    (h : At K ca W σ rel p F H (some (.er x M)) Q) : At K ca W σ rel1 p F H (some (.er x M)) Q' := by
  obtain ⟨r, e, h⟩ := h
  cases e
  exact ⟨_, rfl, h⟩
def seqI (x : D) (M : Mem) : Res (List D) := match x with
  | .lst xs => ok xs M
  | .tup xs => ok xs M
  | _ => none
theorem i_seq (he : PE X e (tE X.K ca W f)) : PI X tg e (tI X.K ca W fun env M => (f env M).bind seqI) := by
  refine ⟨fun pins s σ H R I ⟨p, F, env, M, rm, re, q⟩ => ?_⟩
  have q : At X.K ca W σ (Wk X.K) p F H ((f env M).bind seqI) R := q
  cases z : f env M with
  | none => rw [z] at q; obtain ⟨r, e, _⟩ := q; cases e
  | some r =>
    rw [z] at q
    cases r with
    | er x M' =>
      have q : At X.K ca W σ (Wk X.K) p F H (some (.er x M')) R := q
      exact (pi_list he).run pins s σ H R I ⟨p, F, env, M, rm, re, by rw [z]; exact q.erI⟩
    | ok d M' =>
      have q : At X.K ca W σ (Wk X.K) p F H (seqI d M') R := q
      cases d with
      | lst xs =>
        obtain ⟨r, e, q⟩ := q
        cases e
        have q1 : At X.K ca W σ (Rel X.K) p F H (f env M) (fun v H1 => ∃ a, v = .ref a ∧ (∃ xs, SqL X.K H1 a xs) ∧ R (Itl X.K a) H1) := by
          rw [z]
          refine ⟨_, rfl, fun p' F' H' v s' rm' rel => ?_⟩
          cases rel with
          | lst h1 r1 => exact ⟨_, rfl, ⟨_, .inl (.inl (rm'.fro _ _ h1))⟩, q p' F' H' _ s' rm' (wk_list h1 r1)⟩
        exact (pi_list he).run pins s σ H R I ⟨p, F, env, M, rm, re, q1⟩
      | tup xs =>
        obtain ⟨r, e, q⟩ := q
        cases e
        have q1 : At X.K ca W σ (Rel X.K) p F H (f env M) (fun v H1 => ∃ a, v = .ref a ∧ (∃ xs, SqT X.K H1 a xs) ∧ R (Itt X.K a) H1) := by
          rw [z]
          refine ⟨_, rfl, fun p' F' H' v s' rm' rel => ?_⟩
          cases rel with
          | tup h1 r1 => exact ⟨_, rfl, ⟨_, h1.sq rm'⟩, q p' F' H' _ s' rm' (wk_tup h1 r1)⟩
        exact (pi_tup he).run pins s σ H R I ⟨p, F, env, M, rm, re, q1⟩
      | _ => obtain ⟨r, e, _⟩ := q; cases e
theorem small62_of {i : Int} (h : small62 i = true) : -(2 ^ 62) ≤ i ∧ i < 2 ^ 62 := by
  unfold small62 at h
  rw [Bool.and_eq_true] at h
  exact ⟨of_decide_eq_true h.1, of_decide_eq_true h.2⟩
theorem At.sub {K : PySem.W.Frag} {α β γ : Type} {rel : Ph → Hp → β → α → Prop} {σ : L2.St} {p : Ph} {F H : Hp} {r : α} {M : Mem} {Q : β → Hp → Prop} (h : At K ca W σ rel p F H (ok r M) Q) :
    ∀ p' F' H' v, Step p F H p' F' H' → RM K p' F' M H' → rel p' F' v r → Q v H' := by
  obtain ⟨r, e, h⟩ := h
  cases e
  exact h
def rngI (x : D) (M : Mem) : Res (List D) := match x with
  | .int n => if small62 n then ok (rangeD 0 n) M else none
  | _ => none
theorem i_rng {p : Pos} (hg : Gl X "range") (hm : X.mg "range" = none) (hs : isStar a = false) (ha : PE X a (tE X.K ca W f)) :
    PI X tg (.Call (.Name "range" p) [a] [] pos) (tI X.K ca W fun env M => (f env M).bind rngI) := by
  refine pi_imp (pi_range1 hg hm (pa_cons ha pa_nil (star_cons hs)) (star_cons hs)) fun σ H Q ⟨p, F, env, M, rm, re, q⟩ => ?_
  refine ⟨p, F, env, M, rm, re, q.bind.imp fun x H1 ⟨p1, F1, M1, d, s1, rm1, r1, q1⟩ => ?_⟩
  cases r1 with
  | int n =>
    have q1 : At X.K ca W σ (Wk X.K) p1 F1 H1 (if small62 n = true then ok (rangeD 0 n) M1 else none) Q := q1
    obtain ⟨h1, q2⟩ := q1.cond
    refine ⟨n, rfl, (small62_of h1).1, (small62_of h1).2, ?_⟩
    have w := wk_rng (K := X.K) (p := p1) (F := F1) 0 n
    rw [Int.sub_zero] at w
    exact q2.sub (γ := Nat) _ _ _ _ (Step.refl ..) rm1 w
  | _ => obtain ⟨r, e, _⟩ := q1; cases e
def rngI2 (x y : D) (M : Mem) : Res (List D) := match x, y with
  | .int i, .int j => if small62 i && small62 j then ok (rangeD i j) M else none
  | _, _ => none
theorem i_rng2 {p : Pos} (hg : Gl X "range") (hm : X.mg "range" = none) (hs : isStar a = false) (hs2 : isStar b = false) (ha : PE X a (tE X.K ca W f)) (hb : PE X b (tE X.K ca W g)) :
    PI X tg (.Call (.Name "range" p) [a, b] [] pos) (tI X.K ca W fun env M => (f env M).bind fun x M => (g env M).bind fun y M => rngI2 x y M) := by
  refine pi_imp (pi_range2 hg hm (pa_cons ha (pa_cons hb pa_nil (star_cons hs2)) (star_cons hs)) (by rw [star_cons hs, star_cons hs2]; rfl) (star_cons hs2)) fun σ H Q ⟨p, F, env, M, rm, re, q⟩ => ?_
  refine ⟨p, F, env, M, rm, re, q.bind.imp fun x H1 ⟨p1, F1, M1, d, s1, rm1, r1, q1⟩ => ?_⟩
  refine ⟨p1, F1, env, M1, rm1, re.mono s1.toLe, q1.bind.imp fun y H2 ⟨p2, F2, M2, e, s2, rm2, r2, q2⟩ => ?_⟩
  have r1 := r1.mono s2.toLe
  cases r1 with
  | int m =>
    cases r2 with
    | int n =>
      have q2 : At X.K ca W σ (Wk X.K) p2 F2 H2 (if (small62 m && small62 n) = true then ok (rangeD m n) M2 else none) Q := q2
      obtain ⟨h1, q3⟩ := q2.cond
      rw [Bool.and_eq_true] at h1
      exact ⟨m, n, rfl, ⟨(small62_of h1.1).1, (small62_of h1.1).2, (small62_of h1.2).1, (small62_of h1.2).2⟩, q3.sub (γ := Nat) _ _ _ _ (Step.refl ..) rm2 (wk_rng m n)⟩
    | _ => obtain ⟨r, e, _⟩ := q2; cases e
  | _ => obtain ⟨r, e, _⟩ := q2; cases e
def enumI (x : D) (M : Mem) : Res (List D) := match x with
  | .lst xs => ok (enumD 0 xs) M
  | _ => none
theorem i_enum {p tpos : Pos} {elts : List Expr} {kk : Nat} (hg : Gl X "enumerate") (hm : X.mg "enumerate" = none) (hs : isStar a = false) (ha : PE X a (tE X.K ca W f)) :
    PI X (.Tuple elts kk tpos) (.Call (.Name "enumerate" p) [a] [] pos) (tI X.K ca W fun env M => (f env M).bind enumI) := by
  refine pi_imp (pi_enum hg hm (pa_cons ha pa_nil (star_cons hs)) (star_cons hs)) fun σ H Q ⟨p, F, env, M, rm, re, q⟩ => ?_
  refine ⟨p, F, env, M, rm, re, q.bind.imp fun x H1 ⟨p1, F1, M1, d, s1, rm1, r1, q1⟩ => ?_⟩
  cases r1 with
  | lst h1 r2 => exact ⟨_, _, rfl, .inl (.inl (rm1.fro _ _ h1)), q1.sub (γ := Nat) _ _ _ _ (Step.refl ..) rm1 (wk_enum h1 r2)⟩
  | _ => obtain ⟨r, e, _⟩ := q1; cases e
def zipI (x y : D) (M : Mem) : Res (List D) := match x, y with
  | .lst xs, .lst ys => ok (zipD xs ys) M
  | .tup xs, .tup ys => ok (zipD xs ys) M
  | .tup xs, .lst ys => ok (zipD xs ys) M
  | _, _ => none
/-! ### targets -/
theorem RE.wiped {K : PySem.W.Frag} {p : Ph} {F : Hp} {env : Rf.Env} {σ : L2.St} (r : RE K p F env σ) : ∀ vs : List Nat, RE K p F (wipeE env vs) (wipe σ vs)
  | [] => r
  | v :: vs => by
    have ih := r.wiped vs
    refine ⟨by unfold wipeE wipe; rw [List.length_set, List.length_set]; exact ih.len, fun i d e => ?_⟩
    unfold wipeE at e
    unfold wipe
    by_cases hi : v = i
    · subst hi
      by_cases hl : v < (wipeE env vs).length
      · rw [List.getElem?_set_self hl] at e; cases e
      · rw [List.getElem?_eq_none (by rw [List.length_set]; omega)] at e; cases e
    · rw [List.getElem?_set_ne hi] at e ⊢
      exact ih.get i d e
theorem wipe_set {σ : L2.St} {i : Nat} {v : V} : ∀ {vs : List Nat}, i ∈ vs → wipe (σ.set i (some v)) vs = wipe σ vs
  | w :: vs, h => by
    unfold wipe
    by_cases hi : i ∈ vs
    · rw [wipe_set hi]
    · have e : i = w := by
        rcases List.mem_cons.mp h with h | h
        · exact h
        · exact absurd h hi
      subst e
      clear h
      refine List.ext_getElem? fun j => ?_
      by_cases hj : i = j
      · subst hj
        by_cases hl : i < σ.length
        · rw [List.getElem?_set_self (by rw [wipe_length, List.length_set]; exact hl), List.getElem?_set_self (by rw [wipe_length]; exact hl)]
        · rw [List.getElem?_eq_none (by rw [List.length_set, wipe_length, List.length_set]; omega), List.getElem?_eq_none (by rw [List.length_set, wipe_length]; omega)]
      · rw [List.getElem?_set_ne hj, List.getElem?_set_ne hj]
        by_cases hv : j ∈ vs
        · have := @wipe_in
          exact this hv
        · rw [wipe_out hv, wipe_out hv, List.getElem?_set_ne hj]
where wipe_in : ∀ {vs : List Nat} {j : Nat}, j ∈ vs → (wipe (σ.set i (some v)) vs)[j]? = (wipe σ vs)[j]?
  | w :: vs, j, h => by
    unfold wipe
    by_cases hj : w = j
    · subst hj
      by_cases hl : w < σ.length
      · rw [List.getElem?_set_self (by rw [wipe_length, List.length_set]; exact hl), List.getElem?_set_self (by rw [wipe_length]; exact hl)]
      · rw [List.getElem?_eq_none (by rw [List.length_set, wipe_length, List.length_set]; omega), List.getElem?_eq_none (by rw [List.length_set, wipe_length]; omega)]
    · rw [List.getElem?_set_ne hj, List.getElem?_set_ne hj]
      have h : j ∈ vs := by
        rcases List.mem_cons.mp h with h | h
        · exact absurd h.symm hj
        · exact h
      exact wipe_in h
/-- what a target does -/
def tTg (K : PySem.W.Frag) (tg : Tg) : TG := fun v σ H Q => ∃ p F env M d env', RM K p F M H ∧ RE K p F env σ ∧ Rel K p F v d ∧ asT tg d env = some env' ∧ ∀ σ', RE K p F env' σ' → (∀ vs, (∀ i ∈ tg.slots, i ∈ vs) → wipe σ' vs = wipe σ vs) → Q σ' H
def tTgs (K : PySem.W.Frag) (ts : TgL) : TGs := fun vs σ H Q => ∃ p F env M ds env', RM K p F M H ∧ RE K p F env σ ∧ Rels K p F vs ds ∧ asTs ts ds env = some env' ∧ ∀ σ', RE K p F env' σ' → (∀ vs, (∀ i ∈ ts.slots, i ∈ vs) → wipe σ' vs = wipe σ vs) → Q σ' H
theorem pg_imp {t t' : TG} (h : PG X e t) (i : ∀ v σ H Q, t' v σ H Q → t v σ H Q) : PG X e t' := ⟨fun pins s σ H v u Q I r q => h.run pins s σ H v u Q I r (i v σ H Q q)⟩
theorem pgs_imp {t t' : TGs} (h : PGs X es t) (i : ∀ v σ H Q, t' v σ H Q → t v σ H Q) : PGs X es t' := ⟨fun pins s σ H v u Q I r q => h.run pins s σ H v u Q I r (i v σ H Q q)⟩
theorem g_name {i : Nat} {x : Str} (hN : X.N.Nodup) (hi : X.N[i]? = some x) (hx : Loc X.env.scope x) (hf : X.fn x = true ∨ X.env.scope.names.lookup x = some .local) : PG X (.Name x pos) (tTg X.K (.nm i)) := by
  refine pg_imp (pg_name hN hi hx hf) fun v σ H Q ⟨p, F, env, M, d, env', rm, re, r, e, q⟩ => ?_
  cases e
  exact q _ (re.set r) fun vs h => wipe_set (h i (by simp [Tg.slots]))
def isStarT : Expr → Bool
  | .Starred _ _ => true
  | _ => false
theorem each_cons (h : isStarT e = false) : assignEach (e :: es) X.env = (false, assign e X.env) :: assignEach es X.env := by
  cases e <;> first | rfl | (cases h)
theorem gs_nil : PGs X [] (tTgs X.K .nil) := by
  refine pgs_imp pgs_nil fun v σ H Q ⟨p, F, env, M, d, env', rm, re, r, e, q⟩ => ?_
  cases d with
  | nil => cases e; cases r; exact ⟨rfl, q σ re fun _ _ => rfl⟩
  | cons d ds => cases e
theorem gs_cons {t : Tg} {ts : TgL} (hs : isStarT e = false) (h1 : PG X e (tTg X.K t)) (h2 : PGs X es (tTgs X.K ts)) : PGs X (e :: es) (tTgs X.K (.cons t ts)) := by
  refine pgs_imp (pgs_cons h1 h2 (by rw [each_cons hs]; rfl)) fun v σ H Q ⟨p, F, env, M, ds, env', rm, re, r, e, q⟩ => ?_
  cases ds with
  | nil => cases e
  | cons d ds =>
    cases r with
    | cons r rs =>
      have e : (match asT t d env with | some env' => asTs ts ds env' | none => none) = some env' := e
      split at e
      · rename_i env1 e1
        refine ⟨_, _, rfl, p, F, env, M, d, env1, rm, re, r, e1, fun σ1 re1 w1 => ?_⟩
        refine ⟨p, F, env1, M, ds, env', rm, re1, rs, e, fun σ2 re2 w2 => ?_⟩
        refine q σ2 re2 fun vs hv => ?_
        have hv : ∀ i ∈ t.slots ++ ts.slots, i ∈ vs := hv
        rw [w2 vs fun i hi => hv i (List.mem_append_right _ hi), w1 vs fun i hi => hv i (List.mem_append_left _ hi)]
      · cases e
theorem asTs_len : ∀ {ts : TgL} {ds : List D} {env env' : Rf.Env}, asTs ts ds env = some env' → ds.length = ts.len
  | .nil, [], _, _, _ => rfl
  | .nil, _ :: _, _, _, e => by cases e
  | .cons _ _, [], _, _, e => by cases e
  | .cons t ts, d :: ds, env, env', e => by
    have e : (match asT t d env with | some env' => asTs ts ds env' | none => none) = some env' := e
    split at e
    · show ds.length + 1 = ts.len + 1
      rw [asTs_len e]
    · cases e
theorem g_tup {k : Nat} {ts : TgL} (hc : X.calm = true) (hn : (assignEach es X.env).length = ts.len) (hst : (assignEach es X.env).findIdx? (·.1) = none) (h : PGs X es (tTgs X.K ts)) : PG X (.Tuple es k pos) (tTg X.K (.tp ts)) := by
  refine pg_imp (pg_tup hc h hn hst) fun v σ H Q ⟨p, F, env, M, d, env', rm, re, r, e, q⟩ => ?_
  cases r with
  | tup h1 r1 => exact ⟨_, _, rfl, h1.sq rm, by rw [r1.length]; exact asTs_len e, p, F, env, M, _, env', rm, re, r1, e, q⟩
  | _ => cases e
end
end Rf
end T_RfIter
section T_RfZip
set_option Elab.async false
set_option linter.all false
set_option maxRecDepth 100000
set_option maxHeartbeats 1000000
/-! Rf: zip of a tuple and a list -/
namespace Rf
open PySem PySem.Spec PyProof.Rows L2
/-- the tuple at a, the list at b, the items in new pairs -/
def ItM (K : PySem.W.Frag) (a b : Addr) : It :=
  ⟨fun i H => ∃ (xs ys : List V) (x y : V), SqT K H a xs ∧ SqL K H b ys ∧ xs[i]? = some x ∧ ys[i]? = some y,
    fun i H v H' => ∃ T x y, v = .ref T ∧ H T = none ∧ H' = upd H T (.tup [x, y]) ∧ (∀ xs, SqT K H a xs → xs[i]? = some x) ∧ ∀ ys, SqL K H b ys → ys[i]? = some y,
    fun i H => ∃ xs ys : List V, SqT K H a xs ∧ SqL K H b ys ∧ i ≤ xs.length ∧ i ≤ ys.length ∧ (xs.length = i ∨ ys.length = i)⟩
def StM (z TI TO i1 i2 a b : Addr) (i : Nat) (h : Heap) : Prop := IsZip h z TI TO .none ∧ IsTupOf2 h TI (.ref i1) (.ref i2) ∧ (∃ x y, IsTupOf2 h TO x y) ∧ h.IsTupleIter i1 a i ∧ h.IsListIter i2 b i
theorem five {c z TI TO i1 i2 : Addr} (hc : c ∈ [z, TI, TO, i1, i2]) : c = z ∨ c = TI ∨ c = TO ∨ c = i1 ∨ c = i2 := by simpa using hc
theorem turn_zipM {P : Program} {w : World} {K : PySem.W.Frag} {elts : List Expr} {kk : Nat} {tpos : Pos} {a b z TI TO i1 i2 : Addr} (S : ZipSep2 z TI TO i1 i2 [i1, a] [i2, b]) (na : a ≠ i1) (nb : b ≠ i2) :
    Turn P w K (.Tuple elts kk tpos) (ItM K a b) [z, TI, TO, i1, i2] z (StM z TI TO i1 i2 a b) where
  mem := by simp
  obj := fun i h st c hc => by
    obtain ⟨hz, hTI, ⟨x, y, hTO⟩, ⟨o1, e1, _, d1⟩, ⟨o2, e2, _, d2⟩⟩ := st
    rcases five hc with q | q | q | q | q
    · rw [q]; exact ⟨_, hz, fun v q => nomatch q⟩
    · rw [q]; exact ⟨_, hTI, fun v q => nomatch q⟩
    · rw [q]; exact ⟨_, hTO, fun v q => nomatch q⟩
    · rw [q]; exact ⟨o1, e1, fun v q => by rw [d1] at q; cases q⟩
    · rw [q]; exact ⟨o2, e2, fun v q => by rw [d2] at q; cases q⟩
  keep := fun i h h' st k => by
    obtain ⟨hz, hTI, ⟨x, y, hTO⟩, h1, h2⟩ := st
    exact ⟨k z (by simp) _ hz, k TI (by simp) _ hTI, ⟨x, y, k TO (by simp) _ hTO⟩, h1.at fun o q => k i1 (by simp) o q, h2.at fun o q => k i2 (by simp) o q⟩
  item := by
    intro X hP hw hK hc i pins s σ H E I hf st hg
    subst hP hw hK
    obtain ⟨hz, hTI, ⟨x0, y0, hTO⟩, h1, h2⟩ := st
    obtain ⟨xs, ys, x, y, hqx, hqy, hx, hy⟩ := hg
    obtain ⟨its, rv, p, _⟩ := I.tuple hqx
    obtain ⟨its2, rv2, p2, _⟩ := I.list hqy
    obtain ⟨u, hu, ru⟩ := rv.get hx
    obtain ⟨u2, hu2, ru2⟩ := rv2.get hy
    have hzl : z < s.heap.objs.size := Heap.lt_size hz
    have hh : X.A.in1.handled = none := I.ok.hd hc
    have D1 := Draws.tuple (prog := X.prog) (w := X.w) hh i1 a na its.toArray
    have D2 := Draws.list (prog := X.prog) (w := X.w) hh i2 b nb its2.toArray
    have l1 : i < its.toArray.size := by rw [List.size_toArray]; exact (List.getElem?_eq_some_iff.mp hu).1
    have l2 : i < its2.toArray.size := by rw [List.size_toArray]; exact (List.getElem?_eq_some_iff.mp hu2).1
    refine wpAny_pyNext_zipD2_item S D1 D2 hz hTI hTO ⟨h1, p⟩ ⟨h2, p2.isList⟩ l1 l2 fun x1 x2 h' tk e1 e2 z' TO' s1' s2' hT hsz hk => ?_
    have e1 : its.toArray[i]? = some x1 := e1
    have e2 : its2.toArray[i]? = some x2 := e2
    have e1 : x1 = u := by have : its[i]? = some x1 := by simpa using e1
                           rw [hu] at this; exact (Option.some.inj this).symm
    have e2 : x2 = u2 := by have : its2[i]? = some x2 := by simpa using e2
                            rw [hu2] at this; exact (Option.some.inj this).symm
    subst e1 e2
    refine ⟨_, rfl, wpAny_letOwnedTupleGo_zip (s := { s with heap := h', toks := tk }) z' fun h'' z'' sb => ?_⟩
    have hT2 : h''.get? s.heap.objs.size = some { cls := .type "tuple", data := .seq #[x1, x2] } := (sb.2 _ (Nat.ne_of_gt hzl)).trans hT
    have new : ObjOk X.prog X.w (upd H s.heap.objs.size (.tup [x, y])) h'' s.heap.objs.size (.tup [x, y]) :=
      ⟨by show 2 ≤ sizeLine; decide, [x1, x2], .cons ru (.cons ru2 .nil), ⟨_, hT2, rfl, _, rfl⟩⟩
    have I1 : Inv X pins σ (upd H s.heap.objs.size (.tup [x, y])) { s with heap := h'', toks := tk } :=
      I.turnedNew (t' := tk) (ch := [z, TI, TO, i1, i2]) (fun c o hb q => (sb.2 c (fun q' => hb (by simp [q']))).trans (hk c o (fun q' => hb (by simp [q'])) (fun q' => hb (by simp [q'])) (fun q' => hb (by simp [q'])) (fun q' => hb (by simp [q'])) q)) hf (Nat.le_refl _) new
    refine ⟨.ref s.heap.objs.size, _, I1, rfl, ⟨_, x, y, rfl, I.hok.fresh (Nat.le_refl _), rfl, fun l hl => by rw [I.tuple_inj hl hqx]; exact hx, fun l hl => by rw [I.list_inj hl hqy]; exact hy⟩, ⟨z'', ?_, ⟨x1, x2, ?_⟩, ?_, ?_⟩, fun c hcm => ?_⟩
    · exact (sb.2 _ S.TIz).trans (hk _ _ S.TIz S.TITO S.TIi1 S.TIi2 hTI)
    · exact (sb.2 _ S.TOz).trans TO'
    · exact s1'.1.at fun o q => (sb.2 _ (Ne.symm S.zi1)).trans q
    · exact s2'.1.at fun o q => (sb.2 _ (Ne.symm S.zi2)).trans q
    · have hlt : c < s.heap.objs.size := by
        rcases five hcm with q | q | q | q | q
        · rw [q]; exact hzl
        · rw [q]; exact Heap.lt_size hTI
        · rw [q]; exact Heap.lt_size hTO
        · rw [q]; obtain ⟨_, e1, _⟩ := h1; exact Heap.lt_size e1
        · rw [q]; obtain ⟨_, e2, _⟩ := h2; exact Heap.lt_size e2
      rw [upd_ne (Nat.ne_of_lt hlt)]
      exact (hf c hcm).1
  done := by
    intro X hP hw hK hc i pins s σ H E I hf st hg
    subst hP hw hK
    obtain ⟨hz, hTI, ⟨x0, y0, hTO⟩, h1, h2⟩ := st
    obtain ⟨xs, ys, hqx, hqy, le1, le2, hend⟩ := hg
    obtain ⟨its, rv, p, _⟩ := I.tuple hqx
    obtain ⟨its2, rv2, p2, _⟩ := I.list hqy
    have l1 := rv.length
    have l2 := rv2.length
    have hh : X.A.in1.handled = none := I.ok.hd hc
    have D1 := Draws.tuple (prog := X.prog) (w := X.w) hh i1 a na its.toArray
    have D2 := Draws.list (prog := X.prog) (w := X.w) hh i2 b nb its2.toArray
    exact wpAny_pyNext_zipD2_end S D1 D2 hz hTI hTO ⟨h1, p⟩ ⟨h2, p2.isList⟩ (by rw [List.size_toArray]; omega) (by rw [List.size_toArray]; omega) (by rw [List.size_toArray, List.size_toArray]; omega)
      fun h' tk hk => ⟨rfl, I.turnedL (t' := tk) (ch := [z, TI, TO, i1, i2]) (fun c o hb q => hk c o (fun q' => hb (by simp [q'])) (fun q' => hb (by simp [q'])) (fun q' => hb (by simp [q'])) (fun q' => hb (by simp [q'])) q) hf⟩
  self := fun A i s Q E st h => wpAny_pyIter_zip st.1 h
def iZipM (K : PySem.W.Frag) (ta : TA) : TI := fun σ H R => ta σ H fun vs H1 => ∃ a b xs ys, vs = [.ref a, .ref b] ∧ SqT K H1 a xs ∧ SqL K H1 b ys ∧ R (ItM K a b) H1
theorem pi_zipM {X : Cx} {e e2 : Expr} {ta : TA} {p pos tpos : Pos} {elts : List Expr} {kk : Nat} (hg : Gl X "zip") (hm : X.mg "zip" = none) (ha : PA X [e, e2] ta)
    (hs : starEach [e, e2] X.env = (false, eval e X.env) :: starEach [e2] X.env) (hpl : (backTo pos (starEach [e2] X.env)).any (·.1) = false) :
    PI X (.Tuple elts kk tpos) (.Call (.Name "zip" p) [e, e2] [] pos) (iZipM X.K ta) := by
  refine ⟨fun pins s σ H R I h => ?_⟩
  refine Call_ (ld_blt I hg hm PyProof.Rows.boot_zip (PyProof.Rows.callWith_type1 (thn (ha.run pos pins s σ H _ I h) fun us s1 ⟨vs, H1, I1, r1, q1⟩ => ?_) hs hpl))
  obtain ⟨a, b, xs, ys, ex, hqx, hqy, q⟩ := q1
  subst ex
  cases r1 with
  | cons r rr =>
    cases rr with
    | cons r' rr =>
      cases rr
      cases r
      cases r'
      obtain ⟨its, rv, p1, _⟩ := I1.tuple hqx
      obtain ⟨its2, rv2, p2, _⟩ := I1.list hqy
      have la : a < s1.heap.objs.size := by obtain ⟨o1, ho1, _⟩ := id p1; exact Heap.lt_size ho1
      have lb : b < s1.heap.objs.size := p2.lt
      refine zip_begins2 (begins_tuple a its.toArray) (begins_list b its2.toArray) (show s1.heap.IsTuple a its.toArray from p1) p2.isList fun h' hz hTI hTO h1 h2 hsz hk => wpAny_pyIter_zip hz ?_
      have I2 : Inv X pins σ H1 { s1 with heap := h' } := I1.kept (t' := s1.toks) hk
      have S : ZipSep2 (s1.heap.objs.size + 4) (s1.heap.objs.size + 2) (s1.heap.objs.size + 3) s1.heap.objs.size (s1.heap.objs.size + 1) [s1.heap.objs.size, a] [s1.heap.objs.size + 1, b] :=
        zip_sep2 (fp1 := [a]) (fp2 := [b]) (fun c hc => by rw [List.mem_singleton.mp hc]; exact la) (fun c hc => by rw [List.mem_singleton.mp hc]; exact lb)
      refine ⟨s1.heap.objs.size + 4, [s1.heap.objs.size + 4, s1.heap.objs.size + 2, s1.heap.objs.size + 3, s1.heap.objs.size, s1.heap.objs.size + 1], _, _, H1, rfl, I2, turn_zipM S (Nat.ne_of_lt la) (Nat.ne_of_lt (Nat.lt_succ_of_lt lb)), ⟨hz, hTI, ⟨_, _, hTO⟩, ⟨_, h1, rfl, rfl⟩, ⟨_, h2, rfl, rfl⟩⟩, fun c hcm => ?_, q⟩
      have hle : s1.heap.objs.size ≤ c := by
        rcases five hcm with z | z | z | z | z
        · rw [z]; exact Nat.le_add_right _ _
        · rw [z]; exact Nat.le_add_right _ _
        · rw [z]; exact Nat.le_add_right _ _
        · rw [z]; exact Nat.le_refl _
        · rw [z]; exact Nat.le_add_right _ _
      exact I1.fpOk hle (I1.hok.fresh hle)
theorem wk_zipM {K : PySem.W.Frag} {p : Ph} {F : Hp} {a b : Addr} {xs ys : List V} {ds es : List D} (h : TupAt K F a xs) (r : Rels K p F xs ds) (h' : F b = some (.lst ys)) (r' : Rels K p F ys es) : Wk K p F (ItM K a b) (zipD ds es) := by
  refine ⟨fun p' F' H' M' i z l rm e => ?_, fun p' F' H' M' l rm => ?_⟩
  · obtain ⟨x, y, e0, e0', rfl⟩ := zipD_get _ _ _ _ e
    obtain ⟨v, h1, h2⟩ := r.get e0
    obtain ⟨v', h1', h2'⟩ := r'.get e0'
    have q : SqT K H' a xs := (h.mono l).sq rm
    have q' : SqL K H' b ys := .inl (.inl (rm.fro _ _ (l.lst _ _ h')))
    refine ⟨⟨xs, ys, v, v', q, q', h1, h1'⟩, fun w H2 ⟨T, x', y', e1, e2, e3, e4, e4'⟩ => ?_⟩
    have e5 := e4 xs q
    rw [h1] at e5; cases e5
    have e5' := e4' ys q'
    rw [h1'] at e5'; cases e5'
    subst e1 e3
    exact ⟨_, step_new rm e2, rm_new rm e2, .tup (.inl upd_same) (.cons ((h2.mono l).mono (le_new (rm.free e2))) (.cons ((h2'.mono l).mono (le_new (rm.free e2))) .nil))⟩
  · rw [zipD_len]
    refine ⟨xs, ys, (h.mono l).sq rm, .inl (.inl (rm.fro _ _ (l.lst _ _ h'))), ?_, ?_, ?_⟩
    · rw [r.length]; omega
    · rw [r'.length]; omega
    · rw [r.length, r'.length]; omega
section
variable {X : Cx} {ca : Nat → Addr} {W : WX} {a b : Expr} {f g : Rf.Env → Mem → Res D} {pos : Pos}
/-- zip of two lists, two tuples, a tuple and a list -/
theorem i_zipA {p tpos : Pos} {elts : List Expr} {kk : Nat} (hg : Gl X "zip") (hm : X.mg "zip" = none) (hs : isStar a = false) (hs2 : isStar b = false) (ha : PE X a (tE X.K ca W f)) (hb : PE X b (tE X.K ca W g)) :
    PI X (.Tuple elts kk tpos) (.Call (.Name "zip" p) [a, b] [] pos) (tI X.K ca W fun env M => (f env M).bind fun x M => (g env M).bind fun y M => zipI x y M) := by
  refine ⟨fun pins s σ H R I ⟨p0, F, env, M, rm, re, q⟩ => ?_⟩
  have q : At X.K ca W σ (Wk X.K) p0 F H ((f env M).bind fun x M => (g env M).bind fun y M => zipI x y M) R := q
  by_cases hx : ∃ xs M1 ys M2, f env M = some (.ok (.tup xs) M1) ∧ g env M1 = some (.ok (.lst ys) M2)
  · obtain ⟨xs, M1, ys, M2, z1, z2⟩ := hx
    rw [z1] at q
    have q : At X.K ca W σ (Wk X.K) p0 F H ((g env M1).bind fun y M => zipI (.tup xs) y M) R := q
    rw [z2] at q
    have q : At X.K ca W σ (Wk X.K) p0 F H (ok (zipD xs ys) M2) R := q
    refine (pi_zipM hg hm (pa_cons ha (pa_cons hb pa_nil (star_cons hs2)) (star_cons hs)) (star_cons hs) (by rw [star_cons hs2]; rfl)).run pins s σ H R I ?_
    refine ⟨p0, F, env, M, rm, re, ?_⟩
    rw [z1]
    refine ⟨_, rfl, fun p1 F1 H1 v s1 rm1 r1 => ?_⟩
    refine ⟨p1, F1, env, M1, rm1, re.mono s1.toLe, ?_⟩
    rw [z2]
    refine ⟨_, rfl, fun p2 F2 H2 v2 s2 rm2 r2 => ?_⟩
    have r1 := r1.mono s2.toLe
    cases r1 with
    | tup h1 l1 =>
      cases r2 with
      | lst h2 l2 => exact ⟨_, _, _, _, rfl, h1.sq rm2, .inl (.inl (rm2.fro _ _ h2)), (q.sub (γ := Nat)) _ _ _ _ (s1.trans s2) rm2 (wk_zipM h1 l1 h2 l2)⟩
  · refine (RZ.pi_zipA hg hm (pa_cons ha (pa_cons hb pa_nil (star_cons hs2)) (star_cons hs)) (star_cons hs) (by rw [star_cons hs2]; rfl)).run pins s σ H R I ?_
    refine ⟨p0, F, env, M, rm, re, ?_⟩
    cases z1 : f env M with
    | none => rw [z1] at q; obtain ⟨r, e, _⟩ := q; cases e
    | some r1 =>
      rw [z1] at q
      cases r1 with
      | er x M1 =>
        have q : At X.K ca W σ (Wk X.K) p0 F H (some (.er x M1)) R := q
        exact q.erI
      | ok dx M1 =>
        have q : At X.K ca W σ (Wk X.K) p0 F H ((g env M1).bind fun y M => zipI dx y M) R := q
        refine ⟨_, rfl, fun p1 F1 H1 v s1 rm1 r1 => ?_⟩
        refine ⟨p1, F1, env, M1, rm1, re.mono s1.toLe, ?_⟩
        cases z2 : g env M1 with
        | none => rw [z2] at q; obtain ⟨r, e, _⟩ := q; cases e
        | some r2 =>
          rw [z2] at q
          cases r2 with
          | er x M2 =>
            have q : At X.K ca W σ (Wk X.K) p0 F H (some (.er x M2)) R := q
            exact (q.move s1).erI
          | ok dy M2 =>
            have q : At X.K ca W σ (Wk X.K) p0 F H (zipI dx dy M2) R := q
            refine ⟨_, rfl, fun p2 F2 H2 v2 s2 rm2 r2 => ?_⟩
            have r1 := r1.mono s2.toLe
            cases r1 with
            | lst h1 l1 =>
              cases r2 with
              | lst h2 l2 => exact ⟨_, _, _, _, rfl, .inl ⟨.inl (.inl (rm2.fro _ _ h1)), .inl (.inl (rm2.fro _ _ h2)), (At.sub (γ := Nat) q) _ _ _ _ (s1.trans s2) rm2 (wk_zip h1 l1 h2 l2)⟩⟩
              | _ => obtain ⟨r, e, _⟩ := q; cases e
            | tup h1 l1 =>
              cases r2 with
              | tup h2 l2 => exact ⟨_, _, _, _, rfl, .inr ⟨h1.sq rm2, h2.sq rm2, (At.sub (γ := Nat) q) _ _ _ _ (s1.trans s2) rm2 (wk_zipT h1 l1 h2 l2)⟩⟩
              | lst h2 l2 => exact absurd ⟨_, M1, _, M2, z1, z2⟩ hx
              | _ => obtain ⟨r, e, _⟩ := q; cases e
            | _ => obtain ⟨r, e, _⟩ := q; cases e
end
end Rf
end T_RfZip
section T_RfComp
set_option Elab.async false
set_option linter.all false
set_option maxRecDepth 100000
set_option maxHeartbeats 1000000
/-! Rf: comprehensions -/
namespace Rf
open PySem PySem.Spec PyProof.Rows L2
abbrev WF : WX := fun _ _ _ _ => False
theorem wipe_at {σ : L2.St} : ∀ {vs : List Nat} {j : Nat}, j ∈ vs → (wipe σ vs)[j]? = if j < σ.length then some none else none
  | w :: vs, j, h => by
    unfold wipe
    by_cases hj : w = j
    · subst hj
      by_cases hl : w < σ.length
      · rw [List.getElem?_set_self (by rw [wipe_length]; exact hl), if_pos hl]
      · rw [List.getElem?_eq_none (by rw [List.length_set, wipe_length]; omega), if_neg hl]
    · rw [List.getElem?_set_ne hj]
      have h : j ∈ vs := by
        rcases List.mem_cons.mp h with h | h
        · exact absurd h.symm hj
        · exact h
      exact wipe_at h
theorem wipe_wipe {σ : L2.St} {vs : List Nat} : wipe (wipe σ vs) vs = wipe σ vs := by
  refine List.ext_getElem? fun j => ?_
  by_cases h : j ∈ vs
  · rw [wipe_at h, wipe_at h, wipe_length]
  · rw [wipe_out h]
section
variable {K : PySem.W.Frag} {p1 p2 : Ph} {F1 F2 H1 H : Hp} {M : Mem} {q : Addr} {o : HO}
/-- a thing that is neither frozen nor a cell is written -/
theorem step_out (s : Step p1 F1 H1 p2 F2 H) (h : H1 q = none) : Step p1 F1 H1 p2 F2 (upd H q o) where
  toLe := s.toLe
  keep := fun a u e hn => by rw [upd_ne (fun z => by rw [z, h] at e; cases e)]; exact s.keep a u e hn
  there := fun a e => s.there a (upd_none e)
  new := s.new
  fnew := s.fnew
theorem rm_out (r : RM K p2 F2 M H) (hF : F2 q = none) (hp : ∀ n, p2 n ≠ some q) : RM K p2 F2 M (upd H q o) where
  fro := fun a u e => by rw [upd_ne (fun z => by rw [z, hF] at e; cases e)]; exact r.fro a u e
  dom := r.dom
  inj := r.inj
  liv := fun n a e => by rw [upd_ne (fun z => hp n (by rw [← z]; exact e))]; exact r.liv n a e
  cell := fun n a c e1 e2 hc => by
    obtain ⟨h1, h2⟩ := r.cell n a c e1 e2 hc
    exact ⟨h1, h2.keep (Le.refl ..) (upd_ne (fun z => hp n (by rw [← z]; exact e1)))⟩
/-- such a thing is frozen -/
theorem step_fz (s : Step p1 F1 H1 p2 F2 H) (h : H1 q = none) (hF : F2 q = none) : Step p1 F1 H1 p2 (upd F2 q o) H where
  toLe := s.toLe.trans (le_new hF)
  keep := s.keep
  there := s.there
  new := s.new
  fnew := fun a u e => by
    by_cases ha : a = q
    · subst ha; exact .inr (.inl h)
    · rw [upd_ne ha] at e; exact s.fnew a u e
theorem rm_fz (r : RM K p2 F2 M H) (hF : F2 q = none) (hH : H q = some o) (hp : ∀ n, p2 n ≠ some q) : RM K p2 (upd F2 q o) M H where
  fro := fun a u e => by
    by_cases ha : a = q
    · subst ha; rw [upd_same] at e; cases e; exact hH
    · rw [upd_ne ha] at e; exact r.fro a u e
  dom := r.dom
  inj := r.inj
  liv := r.liv
  cell := fun n a c e1 e2 hc => by
    obtain ⟨h1, h2⟩ := r.cell n a c e1 e2 hc
    have ha : a ≠ q := fun z => hp n (by rw [← z]; exact e1)
    exact ⟨by rw [upd_ne ha]; exact h1, h2.keep (le_new hF) rfl⟩
theorem out_keep (s : Step p1 F1 H1 p2 F2 H) (h : H1 q = some o) (hp : ∀ n, p1 n ≠ some q) (hF : F1 q = none) : H q = some o ∧ (∀ n, p2 n ≠ some q) ∧ F2 q = none := by
  refine ⟨s.keep q o h hp, fun n e => ?_, ?_⟩
  · rcases s.new n q e with e | e
    · exact hp n e
    · rw [h] at e; cases e
  · cases e : F2 q with
    | none => rfl
    | some u =>
      rcases s.fnew q u e with e | e | ⟨n, e⟩
      · rw [hF] at e; cases e
      · rw [h] at e; cases e
      · exact absurd e (hp n)
end
/-- one turn -/
def gEl (fc fe : Rf.Env → Mem → Res D) (tg : Tg) (env : Rf.Env) : D → Mem → Res (Option D) := fun x M => match asT tg x env with
  | some env' => (asB (fc env' M)).bind fun t M => if t then (fe env' M).bind fun y M => ok (some y) M else ok none M
  | none => none
theorem lcL_len {g : D → Mem → Res (Option D)} : ∀ {xs : List D} {M M' : Mem} {acc ys : List D}, lcL g xs M acc = some (.ok ys M') → acc.length ≤ ys.length
  | [], M, M', acc, ys, h => by cases h; exact Nat.le_refl _
  | x :: xs, M, M', acc, ys, h => by
    unfold lcL at h
    split at h
    · have := lcL_len h
      rw [List.length_append] at this
      exact Nat.le_trans (Nat.le_add_right _ _) this
    · exact lcL_len h
    · cases h
theorem lcL_er {g : D → Mem → Res (Option D)} : ∀ {xs : List D} {M M' : Mem} {acc : List D} {x : Exn}, lcL g xs M acc ≠ some (.er x M')
  | [], M, M', acc, x, h => by cases h
  | y :: xs, M, M', acc, x, h => by
    unfold lcL at h
    split at h
    · exact lcL_er h
    · exact lcL_er h
    · cases h
theorem gEl_inv {fc fe : Rf.Env → Mem → Res D} {tg : Tg} {env : Rf.Env} {x : D} {M M' : Mem} {o : Option D} (h : gEl fc fe tg env x M = some (.ok o M')) :
    ∃ env' t M1, asT tg x env = some env' ∧ asB (fc env' M) = some (.ok t M1) ∧ ((t = false ∧ o = none ∧ M' = M1) ∨ (t = true ∧ ∃ y, o = some y ∧ fe env' M1 = some (.ok y M'))) := by
  unfold gEl at h
  split at h
  · rename_i env' e
    refine ⟨env', ?_⟩
    cases z : asB (fc env' M) with
    | none => rw [z] at h; cases h
    | some r =>
      rw [z] at h
      cases r with
      | er x M1 => cases h
      | ok t M1 =>
        refine ⟨t, M1, e, rfl, ?_⟩
        cases t with
        | false => cases h; exact .inl ⟨rfl, rfl, rfl⟩
        | true =>
          have h : ((fe env' M1).bind fun y M => ok (some y) M) = some (.ok o M') := h
          cases z2 : fe env' M1 with
          | none => rw [z2] at h; cases h
          | some r =>
            rw [z2] at h
            cases r with
            | er x M2 => cases h
            | ok y M2 => cases h; exact .inr ⟨rfl, y, rfl, rfl⟩
  · cases h
section
variable {K : PySem.W.Frag} {ca : Nat → Addr} {W : WX} {fi : Rf.Env → Mem → Res (List D)} {fc fe : Rf.Env → Mem → Res D} {tg : Tg}
def lcF (fi : Rf.Env → Mem → Res (List D)) (fc fe : Rf.Env → Mem → Res D) (tg : Tg) : Rf.Env → Mem → Res D := fun env M => (fi env M).bind fun xs M => (lcL (gEl fc fe tg (wipeE env tg.slots)) xs M []).bind fun ys M => if ys.length ≤ sizeLine then ok (.lst ys) M else none
theorem lc_read {tt : TT} {vs : List Nat} {σ : L2.St} {H : Hp} {Q : VK} (hv : vs = tg.slots) (htt : ∀ σ H Q, tT K ca WF fc σ H Q → tt σ H Q) (h : tE K ca W (lcF fi fc fe tg) σ H Q) : tLc (tI K ca W fi) (tTg K tg) tt (tE K ca WF fe) vs σ H Q := by
  subst hv
  obtain ⟨p, F, env, M, rm, re, h⟩ := h
  refine ⟨p, F, env, M, rm, re, (h.bind (rel1 := Wk K)).imp fun J H1 ⟨p1, F1, M1, ds, s1, rm1, w1, q1⟩ => ?_⟩
  intro L hL
  cases z : lcL (gEl fc fe tg (wipeE env tg.slots)) ds M1 [] with
  | none => rw [z] at q1; obtain ⟨r, e, _⟩ := q1; cases e
  | some r =>
    cases r with
    | er x M' => exact absurd z lcL_er
    | ok ys M' =>
      rw [z] at q1
      have q1 : At K ca W σ (Rel K) p1 F1 H1 (if ys.length ≤ sizeLine then ok (.lst ys) M' else none) Q := q1
      obtain ⟨hys, q2⟩ := q1.cond
      refine ⟨fun i m H => m = ds.length - i ∧ i ≤ ds.length ∧ ∃ p2 F2 M2 acc accd, Step p1 F1 H1 p2 F2 H ∧ RM K p2 F2 M2 H ∧ H L = some (.lst acc) ∧ F2 L = none ∧ (∀ k, p2 k ≠ some L) ∧ Rels K p2 F2 acc accd ∧ lcL (gEl fc fe tg (wipeE env tg.slots)) (ds.drop i) M2 accd = some (.ok ys M'), ⟨ds.length, by simp, Nat.zero_le _, ?_⟩, ?_⟩
      · have hp : ∀ k, p1 k ≠ some L := fun k e => rm1.liv k L e hL
        exact ⟨p1, F1, M1, [], [], step_out (Step.refl ..) hL, rm_out rm1 (rm1.free hL) hp, upd_same, rm1.free hL, hp, .nil, by rw [List.drop_zero]; exact z⟩
      · rintro i m H ⟨rfl, hi, p2, F2, M2, acc, accd, s2, rm2, hH, hF, hp, rl, zi⟩
        by_cases hlt : i < ds.length
        · refine .inr ?_
          have hx : ds[i]? = some ds[i] := List.getElem?_eq_getElem hlt
          have hd : ds.drop i = ds[i] :: ds.drop (i + 1) := List.drop_eq_getElem_cons hlt
          obtain ⟨g1, g2⟩ := w1.go p2 F2 H M2 i ds[i] s2.toLe rm2 hx
          refine ⟨g1, fun H' => _, fun H' h => ⟨ds.length - (i + 1), by omega, rfl, hlt, h⟩, fun v H' y => ?_⟩
          obtain ⟨F3, s3, rm3, r3⟩ := g2 v H' y
          rw [hd] at zi
          unfold lcL at zi
          have main : ∃ o M4, gEl fc fe tg (wipeE env tg.slots) ds[i] M2 = some (.ok o M4) ∧ lcL (gEl fc fe tg (wipeE env tg.slots)) (ds.drop (i + 1)) M4 (match o with | some y => accd ++ [y] | none => accd) = some (.ok ys M') := by
            split at zi
            · rename_i y M4 e; exact ⟨some y, M4, e, zi⟩
            · rename_i M4 e; exact ⟨none, M4, e, zi⟩
            · cases zi
          obtain ⟨o, M4, e1, e2⟩ := main
          obtain ⟨env', t, M3, a1, a2, a3⟩ := gEl_inv e1
          refine ⟨p2, F3, wipeE env tg.slots, M2, ds[i], env', rm3, ((re.mono (s1.toLe.trans s2.toLe)).mono s3.toLe).wiped tg.slots, r3, a1, fun σ2 re2 w2 => ?_⟩
          refine ⟨by rw [w2 tg.slots (fun _ h => h), wipe_wipe], htt σ2 H' _ ⟨p2, F3, env', M2, rm3, re2, ?_⟩⟩
          refine ⟨_, a2, fun p4 F4 H4 b s4 rm4 eb => ?_⟩
          have eb : b = t := eb
          subst eb
          rcases a3 with ⟨rfl, rfl, rfl⟩ | ⟨rfl, y, rfl, a4⟩
          · simp only [Bool.false_eq_true, if_false]
            have sA := s3.trans s4
            obtain ⟨k1, k2, k3⟩ := out_keep sA hH hp hF
            exact ⟨p4, F4, _, acc, accd, s2.trans sA, rm4, k1, k3, k2, rl.mono sA.toLe, e2⟩
          · simp only [if_true]
            refine ⟨p4, F4, env', M3, rm4, re2.mono s4.toLe, _, a4, fun p5 F5 H5 v5 s5 rm5 r5 => ?_⟩
            have sA := (s3.trans s4).trans s5
            obtain ⟨k1, k2, k3⟩ := out_keep sA hH hp hF
            have hl := lcL_len e2
            have hl : (accd ++ [y]).length ≤ ys.length := hl
            rw [List.length_append, List.length_singleton] at hl
            have hl2 : acc.length < sizeLine := by rw [rl.length]; omega
            refine ⟨acc, k1, hl2, ?_⟩
            exact ⟨p5, F5, _, acc ++ [v5], accd ++ [y], step_out (s2.trans sA) hL, rm_out rm5 k3 k2, upd_same, k3, k2, (rl.mono sA.toLe).append (.cons r5 .nil), e2⟩
        · have e : i = ds.length := by omega
          subst e
          refine .inl ⟨w1.stop p2 F2 H M2 s2.toLe rm2, ?_⟩
          rw [List.drop_length] at zi
          cases zi
          exact q2.new _ _ _ _ (step_fz s2 hL hF) (rm_fz rm2 hF hH hp) (.lst upd_same (rl.mono (le_new hF)))
end
section
variable {X : Cx} {ca : Nat → Addr} {W : WX} {fi : Rf.Env → Mem → Res (List D)} {fc fe : Rf.Env → Mem → Res D} {tg : Tg} {elt tgE iter c : Expr} {scope : Scope} {own : List (Str × Nat)} {pos : Pos}
def isSetE : Expr → Bool
  | .Set _ _ _ => true
  | _ => false
theorem folded (h : isSetE iter = false) : ∀ x, foldedSetIterable iter X.env x = pure x := by
  intro x
  cases iter <;> first | rfl | (cases h)
theorem e_lcIf (hc : X.calm = true) (hN : X.N.Nodup) (hi : PI X tgE iter (tI X.K ca W fi)) (ok : BlkOk X.N X.env.scope scope own) (hv : own.map (·.2) = tg.slots)
    (hg : ∀ (s : Shared) (H : Hp) (C : Addr) (cl : List (Str × Addr)) (fp : List Addr), PG (X.blk s H scope (compEnvC scope cl C X.env) fp) tgE (tTg X.K tg))
    (ht : ∀ (s : Shared) (H : Hp) (C : Addr) (cl : List (Str × Addr)) (fp : List Addr), PT (X.blk s H scope (compEnvC scope cl C X.env) fp) c (tT X.K ca WF fc))
    (he : ∀ (s : Shared) (H : Hp) (C : Addr) (cl : List (Str × Addr)) (fp : List Addr), PE (X.blk s H scope (compEnvC scope cl C X.env) fp) elt (tE X.K ca WF fe)) (hs : isSetE iter = false) :
    PE X (.ListComp elt [⟨tgE, iter, [c], 0⟩] scope pos) (tE X.K ca W (lcF fi fc fe tg)) :=
  pe_imp (pe_lc hc hN hi ok hg (fun s H C cl fp => pts_one (ht s H C cl fp)) he (folded hs)) fun σ H Q q => lc_read hv (fun _ _ _ h => h) q
theorem yes_read {σ : L2.St} {H : Hp} {Q : Bool → Hp → Prop} (h : tT X.K ca WF (fun _ M => ok (.bl true) M) σ H Q) : tYes σ H Q := by
  obtain ⟨p, F, env, M, rm, re, q⟩ := h
  exact (At.sub (γ := Nat) (r := true) q) _ _ _ _ (Step.refl ..) rm rfl
theorem e_lc (hc : X.calm = true) (hN : X.N.Nodup) (hi : PI X tgE iter (tI X.K ca W fi)) (ok : BlkOk X.N X.env.scope scope own) (hv : own.map (·.2) = tg.slots)
    (hg : ∀ (s : Shared) (H : Hp) (C : Addr) (cl : List (Str × Addr)) (fp : List Addr), PG (X.blk s H scope (compEnvC scope cl C X.env) fp) tgE (tTg X.K tg))
    (he : ∀ (s : Shared) (H : Hp) (C : Addr) (cl : List (Str × Addr)) (fp : List Addr), PE (X.blk s H scope (compEnvC scope cl C X.env) fp) elt (tE X.K ca WF fe)) (hs : isSetE iter = false) :
    PE X (.ListComp elt [⟨tgE, iter, [], 0⟩] scope pos) (tE X.K ca W (lcF fi (fun _ M => Rf.ok (.bl true) M) fe tg)) :=
  pe_imp (pe_lc hc hN hi ok hg (fun s H C cl fp => pts_nil) he (folded hs)) fun σ H Q q => lc_read hv (fun _ _ _ h => yes_read h) q
end
end Rf
end T_RfComp
section T_RfStmt
set_option Elab.async false
set_option linter.all false
set_option maxRecDepth 100000
set_option maxHeartbeats 1000000
/-! Rf: statements -/
namespace Rf
open PySem PySem.Spec PyProof.Rows L2
section
variable {K : PySem.W.Frag} {ca : Nat → Addr} {W : WX}
/-- a statement's end, met by what is wanted -/
def EndR (K : PySem.W.Frag) (ca : Nat → Addr) (W : WX) (p : Ph) (F H : Hp) (D : Ends) : Fl × Rf.Env × Mem → Prop
  | (.nx, env', M') => ∀ p' F' H' σ', Step p F H p' F' H' → RM K p' F' M' H' → RE K p' F' env' σ' → D.nx σ' H'
  | (.brk, env', M') => ∀ p' F' H' σ', Step p F H p' F' H' → RM K p' F' M' H' → RE K p' F' env' σ' → D.bk σ' H'
  | (.cont, env', M') => ∀ p' F' H' σ', Step p F H p' F' H' → RM K p' F' M' H' → RE K p' F' env' σ' → D.ct σ' H'
  | (.ret d, _, M') => ∀ p' F' H' v, Step p F H p' F' H' → RM K p' F' M' H' → Rel K p' F' v d → D.rt v H'
  | (.exc x, env', M') => ∀ p' F' H' σ' cls dd, Step p F H p' F' H' → RM K p' F' M' H' → RE K p' F' env' σ' → ExcR K ca p' F' H' x cls dd → W cls dd σ' H'
theorem EndR.move {p p1 : Ph} {F F1 H H1 : Hp} {D : Ends} {r : Fl × Rf.Env × Mem} (s : Step p F H p1 F1 H1) (h : EndR K ca W p F H D r) : EndR K ca W p1 F1 H1 D r := by
  obtain ⟨f, env, M⟩ := r
  cases f with
  | nx => exact fun p' F' H' σ' s' => h p' F' H' σ' (s.trans s')
  | brk => exact fun p' F' H' σ' s' => h p' F' H' σ' (s.trans s')
  | cont => exact fun p' F' H' σ' s' => h p' F' H' σ' (s.trans s')
  | ret d => exact fun p' F' H' v s' => h p' F' H' v (s.trans s')
  | exc x => exact fun p' F' H' σ' c d s' => h p' F' H' σ' c d (s.trans s')
def tS (K : PySem.W.Frag) (ca : Nat → Addr) (W : WX) (f : Rf.Env → Mem → SRes) : TS := fun D σ H => ∃ p F env M r, RM K p F M H ∧ RE K p F env σ ∧ f env M = some r ∧ EndR K ca W p F H D r
/-- an evaluation within a statement -/
theorem At.to_ {α β : Type} {rel : Ph → Hp → β → α → Prop} {p : Ph} {F H : Hp} {env : Rf.Env} {σ : L2.St} {D : Ends} {r : Res α} {k : α → Mem → SRes} {r' : Fl × Rf.Env × Mem} (re : RE K p F env σ) (e : r.to env k = some r') (h : EndR K ca W p F H D r') :
    At K ca W σ rel p F H r fun v H1 => ∃ p1 F1 M1 d, Step p F H p1 F1 H1 ∧ RM K p1 F1 M1 H1 ∧ rel p1 F1 v d ∧ ∃ r', k d M1 = some r' ∧ EndR K ca W p1 F1 H1 D r' := by
  cases r with
  | none => cases e
  | some r =>
    cases r with
    | ok a M' => exact ⟨_, rfl, fun p' F' H' v s rm rl => ⟨p', F', M', a, s, rm, rl, r', e, h.move s⟩⟩
    | er x M' =>
      have e : some (Fl.exc x, env, M') = some r' := e
      cases e
      exact ⟨_, rfl, fun p' F' H' c d s rm x => h p' F' H' σ c d s rm (re.mono s.toLe) x⟩
theorem ps_imp {X : Cx} {st : Stmt} {t t' : TS} (h : PS X st t) (i : ∀ D σ H, t' D σ H → t D σ H) : PS X st t' := ⟨fun pins s σ H D I q => h.run pins s σ H D I (i D σ H q)⟩
theorem pss_imp {X : Cx} {st : List Stmt} {t t' : TS} (h : PSs X st t) (i : ∀ D σ H, t' D σ H → t D σ H) : PSs X st t' := ⟨fun pins s σ H D I q => h.run pins s σ H D I (i D σ H q)⟩
end
section
variable {X : Cx} {ca : Nat → Addr} {W : WX} {e a b c tg o i : Expr} {es : List Expr} {f g h : Rf.Env → Mem → Res D} {u v : Rf.Env → Mem → SRes} {st : Stmt} {sts sts' : List Stmt} {pos : Pos}
def nxS (env : Rf.Env) (M : Mem) : SRes := some (.nx, env, M)
theorem ss_nil : PSs X [] (tS X.K ca W nxS) := pss_imp pss_nil fun Z σ H ⟨p, F, env, M, r, rm, re, e, h⟩ => by
  cases e
  exact h p F H σ (Step.refl ..) rm re
def thenS (u v : Rf.Env → Mem → SRes) (env : Rf.Env) (M : Mem) : SRes := match u env M with
  | some (.nx, env, M) => v env M
  | r => r
theorem ss_cons (h1 : PS X st (tS X.K ca W u)) (h2 : PSs X sts (tS X.K ca W v)) : PSs X (st :: sts) (tS X.K ca W (thenS u v)) := by
  refine pss_imp (pss_cons h1 h2) fun Z σ H ⟨p, F, env, M, r, rm, re, e, h⟩ => ?_
  unfold thenS at e
  cases z : u env M with
  | none => rw [z] at e; cases e
  | some q =>
    refine ⟨p, F, env, M, q, rm, re, z, ?_⟩
    rw [z] at e
    obtain ⟨fl, env1, M1⟩ := q
    cases fl with
    | nx => exact fun p' F' H' σ' s rm' re' => ⟨p', F', env1, M1, r, rm', re', e, h.move s⟩
    | brk => cases e; exact h
    | cont => cases e; exact h
    | ret d => cases e; exact h
    | exc x => cases e; exact h
/-- a cell is frozen: nothing is done -/
def frzS (i : Nat) (env : Rf.Env) (M : Mem) : SRes := match env[i]? with
  | some (some d) => match eFrz M d with
    | some (d', M') => some (.nx, env.set i (some d'), M')
    | none => none
  | _ => none
theorem re_frz {K : PySem.W.Frag} {p : Ph} {F F' : Hp} {env : Rf.Env} {σ : L2.St} {i : Nat} {w : V} {d' : D} (l : Le p F p F') (re : RE K p F env σ) (hw : σ[i]? = some (some w)) (r : Rel K p F' w d') : RE K p F' (env.set i (some d')) σ := by
  refine ⟨by rw [List.length_set]; exact re.len, fun j d e => ?_⟩
  by_cases hj : i = j
  · subst hj
    by_cases hl : i < env.length
    · rw [List.getElem?_set_self hl] at e
      cases e
      exact ⟨w, hw, r⟩
    · rw [List.getElem?_eq_none (by rw [List.length_set]; omega)] at e
      cases e
  · rw [List.getElem?_set_ne hj] at e
    obtain ⟨v, h1, h2⟩ := re.get j d e
    exact ⟨v, h1, h2.mono l⟩
theorem ss_frz {j : Nat} (h2 : PSs X sts (tS X.K ca W v)) : PSs X sts (tS X.K ca W (thenS (frzS j) v)) := by
  refine pss_imp h2 fun Z σ H ⟨p, F, env, M, r, rm, re, e, h⟩ => ?_
  unfold thenS at e
  cases z : frzS j env M with
  | none => rw [z] at e; cases e
  | some q =>
    rw [z] at e
    unfold frzS at z
    split at z
    · rename_i d ed
      split at z
      · rename_i d' M2 ef
        cases z
        have e : v (env.set j (some d')) M2 = some r := e
        obtain ⟨w, hw, rw_⟩ := re.get _ _ ed
        cases rw_ with
        | @cell n a hn =>
          have ef : (match M[n]? with
            | some (.lst xs) => some (Rf.D.lst xs, putCell M n .dead)
            | some (.dic ks xs) => some (Rf.D.dic ks xs, putCell M n .dead)
            | _ => none) = some (d', M2) := ef
          split at ef
          · rename_i xs hm
            cases ef
            obtain ⟨hF, vs, h1, h3, h4⟩ := rm.cell _ _ _ hn hm (by intro z; cases z)
            have s := step_frz (o := .lst vs) rm hn hm (by intro z; cases z)
            have rm' := rm_frz rm hn hm (by intro z; cases z) h1
            exact ⟨p, _, _, _, r, rm', re_frz s.toLe re hw (.lst upd_same (h3.mono s.toLe)), e, h.move s⟩
          · rename_i ks xs hm
            cases ef
            obtain ⟨hF, vs, h1, h0, h3, h4⟩ := rm.cell _ _ _ hn hm (by intro z; cases z)
            have s := step_frz (o := .dK (ks.zip vs)) rm hn hm (by intro z; cases z)
            have rm' := rm_frz rm hn hm (by intro z; cases z) h1
            exact ⟨p, _, _, _, r, rm', re_frz s.toLe re hw (.dic (.inl upd_same) h0 (h3.mono s.toLe)), e, h.move s⟩
          · cases ef
        | _ => cases ef
      · cases z
    · cases z
theorem s_pass : PS X (.Pass pos) (tS X.K ca W nxS) := ps_imp ps_pass fun Z σ H ⟨p, F, env, M, r, rm, re, e, h⟩ => by
  cases e
  exact h p F H σ (Step.refl ..) rm re
theorem s_doc {x : Str} {j : Nat} {pos' : Pos} : PS X (.Expr (.Constant (.str x) j pos) pos') (tS X.K ca W nxS) := ps_imp ps_doc fun Z σ H ⟨p, F, env, M, r, rm, re, e, h⟩ => by
  cases e
  exact h p F H σ (Step.refl ..) rm re
def brkS (env : Rf.Env) (M : Mem) : SRes := some (.brk, env, M)
def contS (env : Rf.Env) (M : Mem) : SRes := some (.cont, env, M)
def retNS (env : Rf.Env) (M : Mem) : SRes := some (.ret .non, env, M)
theorem s_brk : PS X (.Break pos) (tS X.K ca W brkS) := ps_imp ps_break fun Z σ H ⟨p, F, env, M, r, rm, re, e, h⟩ => by
  cases e
  exact h p F H σ (Step.refl ..) rm re
theorem s_cont : PS X (.Continue pos) (tS X.K ca W contS) := ps_imp ps_continue fun Z σ H ⟨p, F, env, M, r, rm, re, e, h⟩ => by
  cases e
  exact h p F H σ (Step.refl ..) rm re
theorem s_retN : PS X (.Return none pos) (tS X.K ca W retNS) := ps_imp ps_retN fun Z σ H ⟨p, F, env, M, r, rm, re, e, h⟩ => by
  cases e
  exact h p F H _ (Step.refl ..) rm .non
def retS (f : Rf.Env → Mem → Res D) (env : Rf.Env) (M : Mem) : SRes := (f env M).to env fun x M => some (.ret x, env, M)
theorem s_ret (he : PE X e (tE X.K ca W f)) : PS X (.Return (some e) pos) (tS X.K ca W (retS f)) := ps_imp (ps_ret he) fun Z σ H ⟨p, F, env, M, r, rm, re, z, h⟩ => by
  refine ⟨p, F, env, M, rm, re, (At.to_ (rel := Rel X.K) re z h).imp fun v H1 ⟨p1, F1, M1, d, s1, rm1, r1, r', e1, h1⟩ => ?_⟩
  cases e1
  exact h1 _ _ _ _ (Step.refl ..) rm1 r1
def isCompE : Expr → Bool
  | .ListComp _ _ _ _ => true
  | .SetComp _ _ _ _ => true
  | .DictComp _ _ _ _ _ => true
  | _ => false
theorem noswap {t : Option Expr} {l : Nat} {env : PySem.Env} (hs : isCompE e = false) : swapsWith e t l env = pure false := by
  cases e <;> first | rfl | (cases hs)
def exS (f : Rf.Env → Mem → Res D) (env : Rf.Env) (M : Mem) : SRes := (f env M).to env fun _ M => some (.nx, env, M)
theorem s_ex (hs : isCompE e = false) (he : PE X e (tE X.K ca W f)) : PS X (.Expr e pos) (tS X.K ca W (exS f)) := ps_imp (ps_expr he (noswap hs)) fun Z σ H ⟨p, F, env, M, r, rm, re, z, h⟩ => by
  refine ⟨p, F, env, M, rm, re, (At.to_ (rel := Rel X.K) re z h).imp fun v H1 ⟨p1, F1, M1, d, s1, rm1, r1, r', e1, h1⟩ => ?_⟩
  cases e1
  exact h1 _ _ _ _ (Step.refl ..) rm1 (re.mono s1.toLe)
def iteS (f : Rf.Env → Mem → Res D) (u v : Rf.Env → Mem → SRes) (env : Rf.Env) (M : Mem) : SRes := (asB (f env M)).to env fun t M => if t then u env M else v env M
theorem s_ite (hc : PT X c (tT X.K ca W f)) (ha : PSs X sts (tS X.K ca W u)) (hb : PSs X sts' (tS X.K ca W v)) : PS X (.If c sts sts' pos) (tS X.K ca W (iteS f u v)) := by
  refine ps_imp (ps_if hc ha hb) fun Z σ H ⟨p, F, env, M, r, rm, re, z, h⟩ => ?_
  refine ⟨p, F, env, M, rm, re, (At.to_ (rel := eqB) re z h).imp fun t H1 ⟨p1, F1, M1, d, s1, rm1, r1, r', e1, h1⟩ => ?_⟩
  have r1 : t = d := r1
  subst r1
  cases t with
  | true => exact ⟨p1, F1, env, M1, r', rm1, re.mono s1.toLe, e1, h1⟩
  | false => exact ⟨p1, F1, env, M1, r', rm1, re.mono s1.toLe, e1, h1⟩
def asgS (tg : Tg) (f : Rf.Env → Mem → Res D) (env : Rf.Env) (M : Mem) : SRes := (f env M).to env fun x M => match asT tg x env with
  | some env => some (.nx, env, M)
  | none => none
theorem asg_read {t : Tg} {D : Ends} {σ : L2.St} {H : Hp} (h : tS X.K ca W (asgS t f) D σ H) : tAsg (tE X.K ca W f) (tTg X.K t) D σ H := by
  obtain ⟨p, F, env, M, r, rm, re, z, h⟩ := h
  refine ⟨p, F, env, M, rm, re, (At.to_ (rel := Rel X.K) re z h).imp fun x H1 ⟨p1, F1, M1, d, s1, rm1, r1, r', e1, h1⟩ => ?_⟩
  split at e1
  · rename_i env' ea
    cases e1
    exact ⟨p1, F1, env, M1, d, env', rm1, re.mono s1.toLe, r1, ea, fun σ' re' _ => h1 _ _ _ _ (Step.refl ..) rm1 re'⟩
  · cases e1
theorem s_asg {t : Tg} (hs : isCompE e = false) (ht : isStarT tg = false) (hw : swappedStores [tg] e X.env = pure none) (he : PE X e (tE X.K ca W f)) (hg : PG X tg (tTg X.K t)) : PS X (.Assign [tg] e pos) (tS X.K ca W (asgS t f)) := by
  refine ps_imp (ps_asg he hg (by unfold swapsWithSole; exact noswap hs) hw (by rw [each_cons ht]; rfl)) fun Z σ H h => asg_read h
theorem s_set {j : Nat} {x : Str} {pos' : Pos} (hN : X.N.Nodup) (hi : X.N[j]? = some x) (hx : Loc X.env.scope x) (hf : X.fn x = true ∨ X.env.scope.names.lookup x = some .local) (hs : swapsWith e (some (.Name x pos')) pos.line X.env = pure false) (he : PE X e (tE X.K ca W f)) :
    PS X (.Assign [.Name x pos'] e pos) (tS X.K ca W (asgS (.nm j) f)) := by
  refine ps_imp (ps_set hN hi hx he hs hf) fun Z σ H h => ?_
  obtain ⟨p, F, env, M, r, rm, re, z, h⟩ := h
  refine ⟨p, F, env, M, rm, re, (At.to_ (rel := Rel X.K) re z h).imp fun x H1 ⟨p1, F1, M1, d, s1, rm1, r1, r', e1, h1⟩ => ?_⟩
  have e1 : some (Fl.nx, env.set j (some d), M1) = some r' := e1
  cases e1
  exact h1 _ _ _ _ (Step.refl ..) rm1 ((re.mono s1.toLe).set r1)
/-- a, b = x, y by names, stored from the right -/
theorem s_par {j k : Nat} {x y : Str} {px py pt pt2 : Pos} {kt k2 : Nat} (hc : X.calm = true) (hN : X.N.Nodup) (hj : X.N[j]? = some x) (hk : X.N[k]? = some y) (hjk : j ≠ k) (hx : X.env.scope.names.lookup x = some .local) (hy : X.env.scope.names.lookup y = some .local)
    (hw : swappedStores [.Tuple [.Name x px, .Name y py] kt pt] (.Tuple [a, b] k2 pt2) X.env = pure (some [x, y])) {fs : Rf.Env → Mem → Res (List D)} (ha : PA X [a, b] (tEs X.K ca W fs)) :
    PS X (.Assign [.Tuple [.Name x px, .Name y py] kt pt] (.Tuple [a, b] k2 pt2) pos) (tS X.K ca W (asgS (.tp (.cons (.nm j) (.cons (.nm k) .nil))) fun env M => (fs env M).bind fun xs M => if xs.length ≤ sizeLine then ok (.tup xs) M else none)) := by
  refine ps_imp (ps_par hc hN hj hk hjk hx hy ha hw rfl) fun Z σ H ⟨p, F, env, M, r, rm, re, z, h⟩ => ?_
  have z1 : (fs env M).to env (fun xs M => if xs.length ≤ sizeLine then (match asT (.tp (.cons (.nm j) (.cons (.nm k) .nil))) (.tup xs) env with
    | some env => some (Fl.nx, env, M)
    | none => none) else none) = some r := by
    have z : ((fs env M).bind fun xs M => if xs.length ≤ sizeLine then ok (D.tup xs) M else none).to env (fun x M => match asT (.tp (.cons (.nm j) (.cons (.nm k) .nil))) x env with
      | some env => some (Fl.nx, env, M)
      | none => none) = some r := z
    cases q : fs env M with
    | none => rw [q] at z; cases z
    | some q' =>
      rw [q] at z
      cases q' with
      | er x M' => exact z
      | ok xs M' =>
        have z : (if xs.length ≤ sizeLine then ok (D.tup xs) M' else none).to env _ = some r := z
        show (if xs.length ≤ sizeLine then _ else none) = some r
        split at z
        · rename_i hl; rw [if_pos hl]; exact z
        · cases z
  refine ⟨p, F, env, M, rm, re, (At.to_ (rel := Rels X.K) re z1 h).imp fun vs H1 ⟨p1, F1, M1, ds, s1, rm1, r1, r', e1, h1⟩ => ?_⟩
  split at e1
  · have e1 : (match asTs (.cons (.nm j) (.cons (.nm k) .nil)) ds env with
      | some env => some (Fl.nx, env, M1)
      | none => none) = some r' := e1
    match ds, r1, e1 with
    | [d1, d2], .cons q1 (.cons q2 .nil), e1 =>
      have e1 : some (Fl.nx, (env.set j (some d1)).set k (some d2), M1) = some r' := e1
      cases e1
      exact ⟨_, _, rfl, h1 _ _ _ _ (Step.refl ..) rm1 (((re.mono s1.toLe).set q1).set q2)⟩
    | [], _, e1 => cases e1
    | [d1], .cons q1 .nil, e1 => cases e1
    | d1 :: d2 :: d3 :: ds, .cons q1 (.cons q2 (.cons q3 q4)), e1 => cases e1
  · cases e1
end
end Rf
end T_RfStmt
section T_RfStmt2
set_option Elab.async false
set_option linter.all false
set_option maxRecDepth 100000
set_option maxHeartbeats 1000000
/-! Rf: stores into cells, loops, raise -/
namespace Rf
open PySem PySem.Spec PyProof.Rows L2
/-! ### dicts written -/
theorem putD_keys {α β : Type} {ks : List Key} {xs : List α} {ys : List β} {k : Key} {v : α} {w : β} : (putD ks xs k v).1 = (putD ks ys k w).1 := by
  unfold putD
  split <;> rfl
theorem putD_len {α : Type} {ks : List Key} {xs : List α} {k : Key} {v : α} (h : ks.length = xs.length) : (putD ks xs k v).1.length = (putD ks xs k v).2.length := by
  unfold putD
  split
  · simp [h]
  · simp [h]
theorem map_fst {α : Type} {f : Key × α → α} : ∀ {ks : List Key} {xs : List α}, ks.length = xs.length → ks.zip ((ks.zip xs).map f) = (ks.zip xs).map fun p => (p.1, f p)
  | [], [], _ => rfl
  | k :: ks, x :: xs, h => by
    have ih := map_fst (f := f) (ks := ks) (xs := xs) (by simpa using h)
    simp [ih]
theorem putK_put {xs : List V} {ks : List Key} {k : Key} {v : V} (h : ks.length = xs.length) : putK (ks.zip xs) k v = (putD ks xs k v).1.zip (putD ks xs k v).2 := by
  have e : ((ks.zip xs).any fun kv => decide (kv.1 = k)) = ks.any fun j => decide (j = k) := by
    clear v
    induction ks generalizing xs with
    | nil => rfl
    | cons a ks ih =>
      cases xs with
      | nil => cases h
      | cons x xs => simp [ih (by simpa using h)]
  unfold putK putD
  rw [e]
  split
  · rw [map_fst h]
    refine List.map_congr_left fun p _ => ?_
    split <;> rfl
  · show ks.zip xs ++ [k].zip [v] = _
    exact (List.zip_append h).symm
theorem Rels.put {K : PySem.W.Frag} {p : Ph} {F : Hp} {k : Key} {v : V} {d : D} (r : Rel K p F v d) {ks : List Key} : ∀ {vs : List V} {ds : List D}, Rels K p F vs ds → Rels K p F (putD ks vs k v).2 (putD ks ds k d).2 := by
  intro vs ds rs
  unfold putD
  split
  · rename_i h
    clear h
    induction ks generalizing vs ds with
    | nil => simp; exact .nil
    | cons a ks ih =>
      cases rs with
      | nil => simp; exact .nil
      | cons q rs =>
        simp only [List.zip_cons_cons, List.map_cons]
        refine .cons ?_ (ih rs)
        by_cases e : a = k
        · rw [if_pos e, if_pos e]; exact r
        · rw [if_neg e, if_neg e]; exact q
  · exact rs.append (.cons r .nil)
section
variable {K : PySem.W.Frag} {p : Ph} {F H : Hp} {M M' : Mem}
theorem lows_append {n : Nat} : ∀ {a b : List D}, D.lows n a = true → D.lows n b = true → D.lows n (a ++ b) = true
  | [], _, _, h => h
  | x :: a, b, h, h' => lows_cons.mpr ⟨(lows_cons.mp h).1, lows_append (lows_cons.mp h).2 h'⟩
theorem lows_set {n : Nat} {v : D} (hv : v.low n = true) : ∀ {a : List D} {i : Nat}, D.lows n a = true → D.lows n (a.set i v) = true
  | [], _, h => h
  | x :: a, 0, h => lows_cons.mpr ⟨hv, (lows_cons.mp h).2⟩
  | x :: a, i + 1, h => lows_cons.mpr ⟨(lows_cons.mp h).1, lows_set hv (lows_cons.mp h).2⟩
theorem lows_put {n : Nat} {k : Key} {v : D} (hv : v.low n = true) : ∀ {ks : List Key} {a : List D}, D.lows n a = true → D.lows n (putD ks a k v).2 = true := by
  intro ks a h
  unfold putD
  split
  · rename_i h'
    clear h'
    induction ks generalizing a with
    | nil => rfl
    | cons b ks ih =>
      cases a with
      | nil => rfl
      | cons x a =>
        simp only [List.zip_cons_cons, List.map_cons]
        refine lows_cons.mpr ⟨?_, ih (lows_cons.mp h).2⟩
        split
        · exact hv
        · exact (lows_cons.mp h).1
  · exact lows_append h (lows_cons.mpr ⟨hv, rfl⟩)
theorem ixN_len {n m : Nat} {i : Int} (h : n = m) : ixN n i = ixN m i := by rw [h]
theorem setI_of {x y v : V} {dx dy dv : D} (rm : RM K p F M H) (rx : Rel K p F x dx) (ry : Rel K p F y dy) (rv : Rel K p F v dv) (h : eSetI M dx dy dv = some M') (Q : Hp → Prop) (q : ∀ H', Step p F H p F H' → RM K p F M' H' → Q H') : rSetL x y v H Q := by
  cases rx with
  | @cell n a hn =>
    cases ry with
    | int i =>
      have h : (match M[n]? with
        | some (.lst xs) => match ixN xs.length i with
          | some j => if dv.low 0 then some (putCell M n (.lst (xs.set j dv))) else none
          | none => none
        | _ => none) = some M' := h
      split at h
      · rename_i xs hm
        split at h
        · rename_i j hj
          split at h
          · rename_i hl
            cases h
            obtain ⟨_, vs, h1, h2, h3⟩ := rm.cell _ _ _ hn hm (by intro z; cases z)
            refine ⟨a, vs, i, j, rfl, rfl, h1, by rw [h2.length]; exact hj, q _ (step_set rm hn) (rm_set rm hn hm (by intro z; cases z) ⟨_, upd_same, h2.set rv j, lows_set hl h3⟩)⟩
          · cases h
        · cases h
      · cases h
    | _ => cases h
  | _ => cases h
theorem setD_of {x y v : V} {dx dy dv : D} (rm : RM K p F M H) (rx : Rel K p F x dx) (ry : Rel K p F y dy) (rv : Rel K p F v dv) (h : eSetD M dx dy dv = some M') : ∃ a H', x = .ref a ∧ DPut H a y v H' ∧ Step p F H p F H' ∧ RM K p F M' H' := by
  cases rx with
  | @cell n a hn =>
    have h : (match M[n]?, keyOf dy with
      | some (.dic ks xs), some k => if ks.length < sizeLine ∧ dv.low 0 = true then some (putCell M n (.dic (putD ks xs k dv).1 (putD ks xs k dv).2)) else none
      | _, _ => none) = some M' := h
    split at h
    · rename_i ks xs k hm hk
      split at h
      · rename_i hl
        cases h
        obtain ⟨_, vs, h1, h0, h2, h3⟩ := rm.cell _ _ _ hn hm (by intro z; cases z)
        have ek := key_V ry hk
        subst ek
        refine ⟨a, _, rfl, DPut.k h1 ?_, step_set rm hn, rm_set rm hn hm (by intro z; cases z) ⟨(putD ks vs k v).2, ?_, ?_, h2.put rv, lows_put hl.2 h3⟩⟩
        · rw [List.length_zip, h0, Nat.min_self, ← h0]; exact hl.1
        · rw [putK_put h0, upd_same]
          rw [putD_keys (ks := ks) (xs := xs) (ys := vs) (w := v)]
        · rw [putD_keys (ks := ks) (xs := xs) (ys := vs) (w := v)]
          exact putD_len h0
      · cases h
    · cases h
  | _ => cases h
end
section
variable {X : Cx} {ca : Nat → Addr} {W : WX} {e a b c tg o i iter : Expr} {es : List Expr} {f g h : Rf.Env → Mem → Res D} {u v : Rf.Env → Mem → SRes} {st : Stmt} {sts sts' : List Stmt} {pos pos' : Pos}
def setIS (f g h : Rf.Env → Mem → Res D) (env : Rf.Env) (M : Mem) : SRes := (h env M).to env fun v M => (f env M).to env fun x M => (g env M).to env fun y M => match eSetI M x y v with
  | some M => some (.nx, env, M)
  | none => none
theorem s_setI (hs : isCompE e = false) (hi : isSlice i = false) (ho : PE X o (tE X.K ca W f)) (hi' : PE X i (tE X.K ca W g)) (he : PE X e (tE X.K ca W h)) :
    PS X (.Assign [.Subscript o i pos'] e pos) (tS X.K ca W (setIS f g h)) := by
  refine ps_imp (ps_asg he (pg_sub ho hi' set_list (by intro v; cases i <;> first | rfl | (cases hi))) (by unfold swapsWithSole; exact noswap hs) (by rfl) rfl) fun Z σ H ⟨p, F, env, M, r, rm, re, z, hr⟩ => ?_
  refine ⟨p, F, env, M, rm, re, (At.to_ (rel := Rel X.K) re z hr).imp fun v H1 ⟨p1, F1, M1, dv, s1, rm1, r1, r', e1, h1⟩ => ?_⟩
  have re1 := re.mono s1.toLe
  refine ⟨p1, F1, env, M1, rm1, re1, (At.to_ (rel := Rel X.K) re1 e1 h1).imp fun x H2 ⟨p2, F2, M2, dx, s2, rm2, r2, r'', e2, h2⟩ => ?_⟩
  have re2 := re1.mono s2.toLe
  refine ⟨p2, F2, env, M2, rm2, re2, (At.to_ (rel := Rel X.K) re2 e2 h2).imp fun y H3 ⟨p3, F3, M3, dy, s3, rm3, r3, r3', e3, h3⟩ => ?_⟩
  split at e3
  · rename_i M4 e4
    cases e3
    exact setI_of rm3 (r2.mono s3.toLe) r3 ((r1.mono s2.toLe).mono s3.toLe) e4 _ fun H' s rm' => h3 _ _ _ _ s rm' ((re2.mono s3.toLe).mono s.toLe)
  · cases e3
def setDS (f g h : Rf.Env → Mem → Res D) (env : Rf.Env) (M : Mem) : SRes := (h env M).to env fun v M => (f env M).to env fun x M => (g env M).to env fun y M => match eSetD M x y v with
  | some M => some (.nx, env, M)
  | none => none
theorem s_setD (hu : X.A.units + 1 < cLine) (hs : isCompE e = false) (ho : PE X o (tE X.K ca W f)) (hi' : PE X i (tE X.K ca W g)) (he : PE X e (tE X.K ca W h)) :
    PS X (.Assign [.Subscript o i pos'] e pos) (tS X.K ca W (setDS f g h)) := by
  refine ps_imp (ps_dput hu ho hi' he (noswap hs)) fun Z σ H ⟨p, F, env, M, r, rm, re, z, hr⟩ => ?_
  refine ⟨p, F, env, M, rm, re, (At.to_ (rel := Rel X.K) re z hr).imp fun v H1 ⟨p1, F1, M1, dv, s1, rm1, r1, r', e1, h1⟩ => ?_⟩
  have re1 := re.mono s1.toLe
  refine ⟨p1, F1, env, M1, rm1, re1, (At.to_ (rel := Rel X.K) re1 e1 h1).imp fun x H2 ⟨p2, F2, M2, dx, s2, rm2, r2, r'', e2, h2⟩ => ?_⟩
  have re2 := re1.mono s2.toLe
  refine ⟨p2, F2, env, M2, rm2, re2, (At.to_ (rel := Rel X.K) re2 e2 h2).imp fun y H3 ⟨p3, F3, M3, dy, s3, rm3, r3, r3', e3, h3⟩ => ?_⟩
  split at e3
  · rename_i M4 e4
    cases e3
    obtain ⟨a, H', q1, q2, q3, q4⟩ := setD_of rm3 (r2.mono s3.toLe) r3 ((r1.mono s2.toLe).mono s3.toLe) e4
    exact ⟨a, H', q1, q2, h3 _ _ _ _ q3 q4 ((re2.mono s3.toLe).mono q3.toLe)⟩
  · cases e3
def appS (f h : Rf.Env → Mem → Res D) (env : Rf.Env) (M : Mem) : SRes := (f env M).to env fun x M => match isLc M x with
  | none => none
  | some _ => (h env M).to env fun v M => match eApp M x v with
    | some M => some (.nx, env, M)
    | none => none
theorem app_of {K : PySem.W.Frag} {p : Ph} {F H : Hp} {M M' : Mem} {x v : V} {dx dv : D} (rm : RM K p F M H) (rx : Rel K p F x dx) (rv : Rel K p F v dv) (h : eApp M dx dv = some M') (Q : Hp → Prop) (q : ∀ H', Step p F H p F H' → RM K p F M' H' → Q H') : rAppend x [v] H fun _ H' => Q H' := by
  cases rx with
  | @cell n a hn =>
    have h : (match M[n]? with
      | some (.lst xs) => if xs.length < sizeLine ∧ dv.low 0 = true then some (putCell M n (.lst (xs ++ [dv]))) else none
      | _ => none) = some M' := h
    split at h
    · rename_i xs hm
      split at h
      · rename_i hl
        cases h
        obtain ⟨_, vs, h1, h2, h3⟩ := rm.cell _ _ _ hn hm (by intro z; cases z)
        exact ⟨a, vs, v, rfl, rfl, h1, by rw [h2.length]; exact hl.1, q _ (step_set rm hn) (rm_set rm hn hm (by intro z; cases z) ⟨_, upd_same, h2.append (.cons rv .nil), lows_append h3 (lows_cons.mpr ⟨hl.2, rfl⟩)⟩)⟩
      · cases h
    · cases h
  | _ => cases h
theorem few1 {cpos : Pos} (h : isStar e = false) : ((backTo cpos (starEach [e] X.env)).all (fun x => !x.1) && (backToKw cpos (keywordEach [] X.env)).all (fun x => x.1.isSome)
      && decide ([e].length + ([] : List Keyword).length + (if ([] : List Keyword).isEmpty then 0 else 1) < 30)) = true := by
  rw [star_cons h]; rfl
theorem s_app {apos cpos : Pos} (hp : plainRecv o = true) (hl : (apos.endLine == cpos.line) = true) (hs : isStar e = false) (ho : PE X o (tE X.K ca W f)) (he : PE X e (tE X.K ca W h)) :
    PS X (.Expr (.Call (.Attribute o "append" apos) [e] [] cpos) pos) (tS X.K ca W (appS f h)) := by
  have hp : PE X (.Call (.Attribute o "append" apos) [e] [] cpos) (tBM X.K "list" rAppend (tE X.K ca W f) (tCons (tE X.K ca W h) tNil)) :=
    pe_bm PySem.F.plainAttrs_list PySem.F.slot_list_append PySem.F.type_list_append mt_append ho (pa_cons he pa_nil (star_cons hs)) (base_of hp) (few1 hs) hl (star_cons hs) rfl
  refine ps_imp (ps_expr hp rfl) fun Z σ H ⟨p, F, env, M, r, rm, re, z, hr⟩ => ?_
  refine ⟨p, F, env, M, rm, re, (At.to_ (rel := Rel X.K) re z hr).imp fun x H1 ⟨p1, F1, M1, dx, s1, rm1, r1, r', e1, h1⟩ => ?_⟩
  have re1 := re.mono s1.toLe
  split at e1
  · cases e1
  · rename_i u hu
    refine ⟨?_, p1, F1, env, M1, rm1, re1, (At.to_ (rel := Rel X.K) re1 e1 h1).imp fun v H2 ⟨p2, F2, M2, dv, s2, rm2, r2, r'', e2, h2⟩ => ?_⟩
    · cases r1 with
      | @cell n a hn =>
        have hu : (match M1[n]? with
          | some (.lst _) => some ()
          | _ => none) = some u := hu
        split at hu
        · rename_i xs hm
          obtain ⟨_, vs, q1, _⟩ := rm1.cell _ _ _ hn hm (by intro z; cases z)
          exact .inl ⟨rfl, vs, .inl (.inl q1)⟩
        · cases hu
      | _ => cases hu
    · split at e2
      · rename_i M4 e4
        cases e2
        exact app_of rm2 (r1.mono s2.toLe) r2 e4 _ fun H' s rm' => h2 _ _ _ _ s rm' ((re1.mono s2.toLe).mono s.toLe)
      · cases e2
/-! ### loops -/
def forIS {t : Tg} (fi : Rf.Env → Mem → Res (List D)) (u : Rf.Env → Mem → SRes) (env : Rf.Env) (M : Mem) : SRes := (fi env M).to env fun xs M => forS t u xs env M
theorem s_for {t : Tg} {fi : Rf.Env → Mem → Res (List D)} (hp : PassesOwn (model X.prog X.w) X.A X.env X.xe) (hc : X.calm = true) (hs : isSetE iter = false) (hi : PI X tg iter (tI X.K ca W fi)) (hg : PG X tg (tTg X.K t)) (hb : PSs X sts (tS X.K ca W u)) :
    PS X (.For tg iter sts [] pos) (tS X.K ca W (forIS (t := t) fi u)) := by
  refine ps_imp (ps_for hp hc hi hg hb (folded hs)) fun Z σ H ⟨p, F, env, M, r, rm, re, z, hr⟩ => ?_
  refine ⟨p, F, env, M, rm, re, (At.to_ (rel := Wk X.K) re z hr).imp fun J H1 ⟨p1, F1, M1, ds, s1, rm1, w1, r', e1, h1⟩ => ?_⟩
  refine ⟨fun i m σ H => m = ds.length - i ∧ i ≤ ds.length ∧ ∃ p2 F2 env2 M2 r2, Le p1 F1 p2 F2 ∧ RM X.K p2 F2 M2 H ∧ RE X.K p2 F2 env2 σ ∧ forS t u (ds.drop i) env2 M2 = some r2 ∧ EndR X.K ca W p2 F2 H Z r2, ⟨ds.length, by simp, Nat.zero_le _, p1, F1, env, M1, r', Le.refl .., rm1, re.mono s1.toLe, by rw [List.drop_zero]; exact e1, h1⟩, ?_⟩
  rintro i m σ2 H2 ⟨rfl, hi, p2, F2, env2, M2, r2, l2, rm2, re2, e2, h2⟩
  by_cases hlt : i < ds.length
  · refine .inr ?_
    have hx : ds[i]? = some ds[i] := List.getElem?_eq_getElem hlt
    have hd : ds.drop i = ds[i] :: ds.drop (i + 1) := List.drop_eq_getElem_cons hlt
    obtain ⟨g1, g2⟩ := w1.go p2 F2 H2 M2 i ds[i] l2 rm2 hx
    refine ⟨g1, fun σ' H' => ∃ p2 F2 env2 M2 r2, Le p1 F1 p2 F2 ∧ RM X.K p2 F2 M2 H' ∧ RE X.K p2 F2 env2 σ' ∧ forS t u (ds.drop (i + 1)) env2 M2 = some r2 ∧ EndR X.K ca W p2 F2 H' Z r2, fun σ' H' h => ⟨ds.length - (i + 1), by omega, rfl, hlt, h⟩, fun v H' y => ?_⟩
    obtain ⟨F3, s3, rm3, r3⟩ := g2 v H' y
    rw [hd] at e2
    unfold forS at e2
    split at e2
    · cases e2
    · rename_i env3 ea
      refine ⟨p2, F3, env2, M2, ds[i], env3, rm3, re2.mono s3.toLe, r3, ea, fun σ3 re3 _ => ?_⟩
      cases zu : u env3 M2 with
      | none => rw [zu] at e2; cases e2
      | some q =>
        rw [zu] at e2
        refine ⟨p2, F3, env3, M2, q, rm3, re3, zu, ?_⟩
        have h3 := h2.move s3
        obtain ⟨fl, env4, M4⟩ := q
        cases fl with
        | nx => exact fun p' F' H'' σ' s' rm' re' => ⟨p', F', env4, M4, r2, (l2.trans s3.toLe).trans s'.toLe, rm', re', e2, h3.move s'⟩
        | cont => exact fun p' F' H'' σ' s' rm' re' => ⟨p', F', env4, M4, r2, (l2.trans s3.toLe).trans s'.toLe, rm', re', e2, h3.move s'⟩
        | brk => cases e2; exact h3
        | ret d => cases e2; exact h3
        | exc x => cases e2; exact h3
  · have e : i = ds.length := by omega
    subst e
    refine .inl ⟨w1.stop p2 F2 H2 M2 l2 rm2, ?_⟩
    rw [List.drop_length] at e2
    cases e2
    exact h2 p2 F2 H2 σ2 (Step.refl ..) rm2 re2
theorem s_whl (hp : PassesOwn (model X.prog X.w) X.A X.env X.xe) (hc : PT X c (tT X.K ca W f)) (hb : PSs X sts (tS X.K ca W u)) : PS X (.While c sts [] pos) (tS X.K ca W (whileS f u)) := by
  refine ps_imp (ps_while hp hc hb) fun Z σ H ⟨p, F, env, M, r, rm, re, z, hr⟩ => ?_
  unfold whileS at z
  split at z
  · rename_i hx
    refine ⟨fun n σ H => ∃ p F env M r, RM X.K p F M H ∧ RE X.K p F env σ ∧ turns f u n env M = some r ∧ EndR X.K ca W p F H Z r, ⟨_, p, F, env, M, r, rm, re, z, hr⟩, ?_⟩
    rintro n σ1 H1 ⟨p1, F1, env1, M1, r1, rm1, re1, e1, h1⟩
    cases n with
    | zero => cases e1
    | succ n =>
      have e1 : (asB (f env1 M1)).to env1 (fun t M => if t then match u env1 M with
        | some (.nx, e, M) => turns f u n e M
        | some (.cont, e, M) => turns f u n e M
        | some (.brk, e, M) => some (.nx, e, M)
        | r => r
      else some (.nx, env1, M)) = some r1 := e1
      refine ⟨p1, F1, env1, M1, rm1, re1, (At.to_ (rel := eqB) re1 e1 h1).imp fun t H2 ⟨p2, F2, M2, d, s2, rm2, r2, r', e2, h2⟩ => ?_⟩
      have r2 : t = d := r2
      subst r2
      have re2 := re1.mono s2.toLe
      cases t with
      | false =>
        cases e2
        rw [if_neg Bool.false_ne_true]
        exact h2 _ _ _ _ (Step.refl ..) rm2 re2
      | true =>
        rw [if_pos rfl] at e2 ⊢
        refine ⟨fun σ' H' => ∃ p F env M r, RM X.K p F M H' ∧ RE X.K p F env σ' ∧ turns f u n env M = some r ∧ EndR X.K ca W p F H' Z r, fun σ' H' h => ⟨n, Nat.lt_succ_self _, h⟩, ?_⟩
        cases zu : u env1 M2 with
        | none => rw [zu] at e2; cases e2
        | some q =>
          rw [zu] at e2
          refine ⟨p2, F2, env1, M2, q, rm2, re2, zu, ?_⟩
          obtain ⟨fl, env4, M4⟩ := q
          cases fl with
          | nx => exact fun p' F' H'' σ' s' rm' re' => ⟨p', F', env4, M4, r', rm', re', e2, h2.move s'⟩
          | cont => exact fun p' F' H'' σ' s' rm' re' => ⟨p', F', env4, M4, r', rm', re', e2, h2.move s'⟩
          | brk => cases e2; exact h2
          | ret d => cases e2; exact h2
          | exc x => cases e2; exact h2
  · cases z
/-! ### raise -/
def raisS (k : Nat) (env : Rf.Env) (M : Mem) : SRes := some (.exc ⟨k, none⟩, env, M)
theorem s_rais {k : Nat} {bmB : List Value} {B newId initId : String} {x m : Str} {j : Nat} {p p2 pos2 : Pos} (hc : X.calm = true) (tk : Takes X W) (Fe : ExcBaseFacts B newId initId bmB) (q : PySem.W.excIn X.K (ca k) bmB newId = true) (gC : X.mg x = some (.ref (ca k)))
    (kC : PySem.W.keepIn X.K (.ref (ca k)) = true) (r : Raises X (.ref (ca k))) (hg : Gl X x) (hdb : (x == ("__debug__" : Str)) = false) :
    PS X (.Raise (some (.Call (.Name x p) [.Constant (.str m) j p2] [] pos)) none pos2) (tS X.K ca W (raisS k)) := by
  refine ps_imp (ps_raise hc tk (pmk_own Fe q gC kC r hg hdb)) fun Z σ H ⟨p, F, env, M, r, rm, re, z, hr⟩ => ?_
  cases z
  exact hr _ _ _ _ _ _ (Step.refl ..) rm re ⟨rfl, trivial⟩
/-! ### a comprehension into a local -/
theorem s_setLc {j : Nat} {y : Str} {py spos : Pos} {elt tgE : Expr} {scope : Scope} {own : List (Str × Nat)} {fi : Rf.Env → Mem → Res (List D)} {fc fe : Rf.Env → Mem → Res D} {t : Tg} (hc : X.calm = true) (hN : X.N.Nodup) (hy : X.N[j]? = some y) (hyl : X.env.scope.names.lookup y = some .local)
    (hk : X.env.scope.kind = .function) (hl : (py.line == pos.line) = true) (hn : (scope.names.any fun (n, k) => n == y && (k == .local || k == .cell)) = false)
    (hi : PI X tgE iter (tI X.K ca W fi)) (ok : BlkOk X.N X.env.scope scope own) (hv : own.map (·.2) = t.slots)
    (hg : ∀ (s : Shared) (H : Hp) (C : Addr) (cl : List (Str × Addr)) (fp : List Addr), PG (X.blk s H scope (compEnvC scope cl C X.env) fp) tgE (tTg X.K t))
    (he : ∀ (s : Shared) (H : Hp) (C : Addr) (cl : List (Str × Addr)) (fp : List Addr), PE (X.blk s H scope (compEnvC scope cl C X.env) fp) elt (tE X.K ca WF fe)) (hs : isSetE iter = false) :
    PS X (.Assign [.Name y py] (.ListComp elt [⟨tgE, iter, [], 0⟩] scope pos) spos) (tS X.K ca W (asgS (.nm j) (lcF fi (fun _ M => Rf.ok (.bl true) M) fe t))) := by
  refine ps_imp (ps_setLc hc hN hy hyl (sw_true hk hyl hl hn) hi ok hg (fun s H C cl fp => pts_nil) he (folded hs)) fun Z σ H h => ?_
  obtain ⟨p, F, env, M, r, rm, re, z, h⟩ := h
  refine lc_read hv (fun _ _ _ h => yes_read h) ⟨p, F, env, M, rm, re, (At.to_ (rel := Rel X.K) re z h).imp fun x H1 ⟨p1, F1, M1, d, s1, rm1, r1, r', e1, h1⟩ => ?_⟩
  have e1 : some (Fl.nx, env.set j (some d), M1) = some r' := e1
  cases e1
  exact h1 _ _ _ _ (Step.refl ..) rm1 ((re.mono s1.toLe).set r1)
theorem s_setLcIf {j : Nat} {y : Str} {py spos : Pos} {elt tgE : Expr} {scope : Scope} {own : List (Str × Nat)} {fi : Rf.Env → Mem → Res (List D)} {fc fe : Rf.Env → Mem → Res D} {t : Tg} (hc : X.calm = true) (hN : X.N.Nodup) (hy : X.N[j]? = some y) (hyl : X.env.scope.names.lookup y = some .local)
    (hk : X.env.scope.kind = .function) (hl : (py.line == pos.line) = true) (hn : (scope.names.any fun (n, k) => n == y && (k == .local || k == .cell)) = false)
    (hi : PI X tgE iter (tI X.K ca W fi)) (ok : BlkOk X.N X.env.scope scope own) (hv : own.map (·.2) = t.slots)
    (hg : ∀ (s : Shared) (H : Hp) (C : Addr) (cl : List (Str × Addr)) (fp : List Addr), PG (X.blk s H scope (compEnvC scope cl C X.env) fp) tgE (tTg X.K t))
    (ht : ∀ (s : Shared) (H : Hp) (C : Addr) (cl : List (Str × Addr)) (fp : List Addr), PT (X.blk s H scope (compEnvC scope cl C X.env) fp) c (tT X.K ca WF fc))
    (he : ∀ (s : Shared) (H : Hp) (C : Addr) (cl : List (Str × Addr)) (fp : List Addr), PE (X.blk s H scope (compEnvC scope cl C X.env) fp) elt (tE X.K ca WF fe)) (hs : isSetE iter = false) :
    PS X (.Assign [.Name y py] (.ListComp elt [⟨tgE, iter, [c], 0⟩] scope pos) spos) (tS X.K ca W (asgS (.nm j) (lcF fi fc fe t))) := by
  refine ps_imp (ps_setLc hc hN hy hyl (sw_true hk hyl hl hn) hi ok hg (fun s H C cl fp => pts_one (ht s H C cl fp)) he (folded hs)) fun Z σ H h => ?_
  obtain ⟨p, F, env, M, r, rm, re, z, h⟩ := h
  refine lc_read hv (fun _ _ _ h => h) ⟨p, F, env, M, rm, re, (At.to_ (rel := Rel X.K) re z h).imp fun x H1 ⟨p1, F1, M1, d, s1, rm1, r1, r', e1, h1⟩ => ?_⟩
  have e1 : some (Fl.nx, env.set j (some d), M1) = some r' := e1
  cases e1
  exact h1 _ _ _ _ (Step.refl ..) rm1 ((re.mono s1.toLe).set r1)
end
end Rf
end T_RfStmt2
section T_RfSw
set_option Elab.async false
set_option linter.all false
set_option maxRecDepth 100000
set_option maxHeartbeats 1000000
/-! Rf: stores of several names in one assignment -/
namespace Rf
open PySem PySem.Spec PyProof.Rows L2
def isTupX : Expr → Bool
  | .Tuple _ _ _ => true
  | _ => false
theorem sw_noTup {t e : Expr} {env : PySem.Env} (h : isTupX e = false) : swappedStores [t] e env = pure none := by
  cases e <;> first | (cases h; done) | skip
  all_goals (cases t <;> rfl)
theorem sw_nm {x : Str} {p : Pos} {e : Expr} {env : PySem.Env} : swappedStores [.Name x p] e env = pure none := by
  cases e <;> rfl
theorem bk_fn {env : PySem.Env} (h : env.scope.kind = .function) : env.blockKind = .function := by
  unfold Env.blockKind
  rw [h]; rfl
/-- a target that is no local name -/
def noLoc (sc : Scope) : Expr → Bool
  | .Name x _ => !decide (sc.names.lookup x = some .local)
  | _ => true
theorem fm_len {f : Expr → Option Str} : ∀ {es : List Expr}, (∃ e ∈ es, f e = none) → ((es.filterMap f).length != es.length) = true := by
  intro es h
  have key : ∀ es : List Expr, (es.filterMap f).length ≤ es.length := fun es => List.length_filterMap_le f es
  have : (es.filterMap f).length < es.length := by
    induction es with
    | nil => obtain ⟨_, h, _⟩ := h; cases h
    | cons x r ih =>
      obtain ⟨e, he, hf⟩ := h
      rcases List.mem_cons.mp he with he | he
      · subst he
        rw [List.filterMap_cons_none hf]
        exact Nat.lt_succ_of_le (key r)
      · have := ih ⟨e, he, hf⟩
        cases q : f x with
        | none => rw [List.filterMap_cons_none q]; exact Nat.lt_succ_of_lt this
        | some y => rw [List.filterMap_cons_some q]; exact Nat.succ_lt_succ this
  exact bne_iff_ne.mpr (Nat.ne_of_lt this)
theorem sw_some {ts vs : List Expr} {k k2 : Nat} {p p2 : Pos} {env : PySem.Env} (h : (ts.any fun e => noLoc env.scope e) = true) : swappedStores [.Tuple ts k p] (.Tuple vs k2 p2) env = pure none := by
  obtain ⟨e, he, hn⟩ := List.any_eq_true.mp h
  unfold swappedStores
  show (if _ then pure none else if _ then pure none else if _ then pure none else _) = _
  split
  · rfl
  · split
    · rfl
    · refine if_pos ?_
      rw [Bool.or_eq_true]
      left
      refine fm_len ⟨e, he, ?_⟩
      cases e <;> first | rfl | skip
      rename_i x q
      have hn : (!decide (env.scope.names.lookup x = some .local)) = true := hn
      have hk : ¬ env.kindOf x = some .local := fun z => by
        have z' : env.scope.names.lookup x = some .local := z
        rw [z'] at hn
        simp at hn
      show (if (env.kindOf x == some .local && q.line == _) = true then some x else none) = none
      rw [if_neg]
      simp [hk]
theorem sw_len {ts vs : List Expr} {k k2 : Nat} {p p2 : Pos} {env : PySem.Env} (h : (!(ts.length == 2 || ts.length == 3) || vs.length != ts.length) = true) : swappedStores [.Tuple ts k p] (.Tuple vs k2 p2) env = pure none := by
  unfold swappedStores
  show (if _ then pure none else _) = _
  rw [if_pos]
  rw [Bool.or_eq_true]
  exact .inl h
theorem sw_fold {ts vs : List Expr} {k k2 : Nat} {p p2 : Pos} {env : PySem.Env} (h : vs.all (foldedForSure 8) = true) : swappedStores [.Tuple ts k p] (.Tuple vs k2 p2) env = pure none := by
  unfold swappedStores
  show (if _ then pure none else if _ then pure none else if _ then pure none else if _ then pure none else _) = _
  split
  · rfl
  · split
    · rfl
    · split
      · rfl
      · first
        | rfl
        | rw [if_pos h]
theorem sw_pair {x y : Str} {px py : Pos} {a b : Expr} {k k2 : Nat} {p p2 : Pos} {env : PySem.Env} (hk : env.scope.kind = .function) (hx : env.scope.names.lookup x = some .local) (hy : env.scope.names.lookup y = some .local) (hl : (py.line == px.line) = true) (hxy : x ≠ y)
    (sa : isStar a = false) (sb : isStar b = false) (hf : (foldedForSure 8 a && foldedForSure 8 b) = false) (hc : (constantsAlone 8 a && constantsAlone 8 b) = false) :
    swappedStores [.Tuple [.Name x px, .Name y py] k p] (.Tuple [a, b] k2 p2) env = pure (some [x, y]) := by
  have kx : env.kindOf x = some .local := hx
  have ky : env.kindOf y = some .local := hy
  have st : ∀ e : Expr, isStar e = false → (match e with | .Starred .. => true | _ => false) = false := fun e h => by cases e <;> first | rfl | (cases h)
  have hl' : py.line = px.line := beq_iff_eq.mp hl
  have hf' : ([a, b].all (foldedForSure 8)) = false := by simpa using hf
  have hc' : ([a, b].all (constantsAlone 8)) = false := by simpa using hc
  have hnd : ([x, y].eraseDups.length != [x, y].length) = false := by
    have : ([x, y] : List Str).eraseDups = [x, y] := by
      simp [List.eraseDups_cons, hxy, Ne.symm hxy]
    rw [this]; rfl
  unfold swappedStores
  simp only [bk_fn hk]
  show (if _ then pure none else if _ then pure none else if _ then pure none else if _ then pure none else if _ then _ else _) = _
  rw [if_neg (by simp), if_neg, if_neg, if_neg (by rw [hf']; decide), if_neg (by rw [hc']; decide)]
  · show pure (some (List.filterMap _ [Expr.Name x px, Expr.Name y py])) = _
    simp [kx, ky, hl', Expr.pos]
  · show ¬ ((List.filterMap _ [Expr.Name x px, Expr.Name y py]).length != _ || _) = true
    simp [kx, ky, hl', Expr.pos]
    simpa using hnd
  · intro h
    obtain ⟨e, he, hq⟩ := List.any_eq_true.mp h
    clear h
    rcases List.mem_cons.mp he with rfl | he
    · cases e <;> first | (cases sa; done) | (cases hq)
    · rcases List.mem_cons.mp he with rfl | he
      · cases e <;> first | (cases sb; done) | (cases hq)
      · cases he
theorem sw_trip {x y z : Str} {px py pz : Pos} {a b c : Expr} {k k2 : Nat} {p p2 : Pos} {env : PySem.Env} (hk : env.scope.kind = .function) (hx : env.scope.names.lookup x = some .local) (hy : env.scope.names.lookup y = some .local) (hz : env.scope.names.lookup z = some .local) (hl : (py.line == px.line) = true) (hl2 : (pz.line == px.line) = true) (hxy : x ≠ y) (hxz : x ≠ z) (hyz : y ≠ z)
    (sa : isStar a = false) (sb : isStar b = false) (sc : isStar c = false) (hf : (foldedForSure 8 a && (foldedForSure 8 b && foldedForSure 8 c)) = false) (hc : (constantsAlone 8 a && (constantsAlone 8 b && constantsAlone 8 c)) = false) :
    swappedStores [.Tuple [.Name x px, .Name y py, .Name z pz] k p] (.Tuple [a, b, c] k2 p2) env = pure (some [x, y, z]) := by
  have kx : env.kindOf x = some .local := hx
  have ky : env.kindOf y = some .local := hy
  have kz : env.kindOf z = some .local := hz
  have hl' : py.line = px.line := beq_iff_eq.mp hl
  have hl2' : pz.line = px.line := beq_iff_eq.mp hl2
  have hf' : ([a, b, c].all (foldedForSure 8)) = false := by simpa using hf
  have hc' : ([a, b, c].all (constantsAlone 8)) = false := by simpa using hc
  have hnd : ([x, y, z].eraseDups.length != [x, y, z].length) = false := by
    have : ([x, y, z] : List Str).eraseDups = [x, y, z] := by
      simp [List.eraseDups_cons, hxy, Ne.symm hxy, Ne.symm hxz, Ne.symm hyz]
    rw [this]; rfl
  unfold swappedStores
  simp only [bk_fn hk]
  show (if _ then pure none else if _ then pure none else if _ then pure none else if _ then pure none else if _ then _ else _) = _
  rw [if_neg (by simp), if_neg, if_neg, if_neg (by rw [hf']; decide), if_neg (by rw [hc']; decide)]
  · show pure (some (List.filterMap _ [Expr.Name x px, Expr.Name y py, Expr.Name z pz])) = _
    simp [kx, ky, kz, hl', hl2', Expr.pos]
  · show ¬ ((List.filterMap _ [Expr.Name x px, Expr.Name y py, Expr.Name z pz]).length != _ || _) = true
    simp [kx, ky, kz, hl', hl2', Expr.pos]
    simpa using hnd
  · intro h
    obtain ⟨e, he, hq⟩ := List.any_eq_true.mp h
    clear h
    rcases List.mem_cons.mp he with rfl | he
    · cases e <;> first | (cases sa; done) | (cases hq)
    · rcases List.mem_cons.mp he with rfl | he
      · cases e <;> first | (cases sb; done) | (cases hq)
      · rcases List.mem_cons.mp he with rfl | he
        · cases e <;> first | (cases sc; done) | (cases hq)
        · cases he
section
variable {X : Cx} {ca : Nat → Addr} {W : WX} {a b c : Expr} {pos : Pos}
theorem s_par3 {j k l : Nat} {x y z : Str} {px py pz pt pt2 : Pos} {kt k2 : Nat} (hc : X.calm = true) (hN : X.N.Nodup) (hj : X.N[j]? = some x) (hk : X.N[k]? = some y) (hl : X.N[l]? = some z) (hjk : j ≠ k) (hjl : j ≠ l) (hkl : k ≠ l) (hx : X.env.scope.names.lookup x = some .local) (hy : X.env.scope.names.lookup y = some .local) (hz : X.env.scope.names.lookup z = some .local)
    (hw : swappedStores [.Tuple [.Name x px, .Name y py, .Name z pz] kt pt] (.Tuple [a, b, c] k2 pt2) X.env = pure (some [x, y, z])) {fs : Rf.Env → Mem → Res (List D)} (ha : PA X [a, b, c] (tEs X.K ca W fs)) :
    PS X (.Assign [.Tuple [.Name x px, .Name y py, .Name z pz] kt pt] (.Tuple [a, b, c] k2 pt2) pos) (tS X.K ca W (asgS (.tp (.cons (.nm j) (.cons (.nm k) (.cons (.nm l) .nil)))) fun env M => (fs env M).bind fun xs M => if xs.length ≤ sizeLine then ok (.tup xs) M else none)) := by
  refine ps_imp (ps_par3 hc hN hj hk hl hjk hjl hkl hx hy hz ha hw rfl) fun Z σ H ⟨p, F, env, M, r, rm, re, z, h⟩ => ?_
  have z1 : (fs env M).to env (fun xs M => if xs.length ≤ sizeLine then (match asT (.tp (.cons (.nm j) (.cons (.nm k) (.cons (.nm l) .nil)))) (.tup xs) env with
    | some env => some (Fl.nx, env, M)
    | none => none) else none) = some r := by
    have z : ((fs env M).bind fun xs M => if xs.length ≤ sizeLine then ok (D.tup xs) M else none).to env (fun x M => match asT (.tp (.cons (.nm j) (.cons (.nm k) (.cons (.nm l) .nil)))) x env with
      | some env => some (Fl.nx, env, M)
      | none => none) = some r := z
    cases q : fs env M with
    | none => rw [q] at z; cases z
    | some q' =>
      rw [q] at z
      cases q' with
      | er x M' => exact z
      | ok xs M' =>
        have z : (if xs.length ≤ sizeLine then ok (D.tup xs) M' else none).to env _ = some r := z
        show (if xs.length ≤ sizeLine then _ else none) = some r
        split at z
        · rename_i hl; rw [if_pos hl]; exact z
        · cases z
  refine ⟨p, F, env, M, rm, re, (At.to_ (rel := Rels X.K) re z1 h).imp fun vs H1 ⟨p1, F1, M1, ds, s1, rm1, r1, r', e1, h1⟩ => ?_⟩
  split at e1
  · have e1 : (match asTs (.cons (.nm j) (.cons (.nm k) (.cons (.nm l) .nil))) ds env with
      | some env => some (Fl.nx, env, M1)
      | none => none) = some r' := e1
    match ds, r1, e1 with
    | [d1, d2, d3], .cons q1 (.cons q2 (.cons q3 .nil)), e1 =>
      have e1 : some (Fl.nx, ((env.set j (some d1)).set k (some d2)).set l (some d3), M1) = some r' := e1
      cases e1
      exact ⟨_, _, _, rfl, h1 _ _ _ _ (Step.refl ..) rm1 ((((re.mono s1.toLe).set q1).set q2).set q3)⟩
    | [], _, e1 => cases e1
    | [d1], .cons q1 .nil, e1 => cases e1
    | [d1, d2], .cons q1 (.cons q2 .nil), e1 => cases e1
    | d1 :: d2 :: d3 :: d4 :: ds, .cons q1 (.cons q2 (.cons q3 (.cons q4 q5))), e1 => cases e1
  · cases e1
end
end Rf
end T_RfSw
section T_RfRev
set_option Elab.async false
set_option linter.all false
set_option maxRecDepth 100000
set_option maxHeartbeats 1000000
/-! Rf: t[::-1] of a tuple -/
namespace Rf
open PySem PySem.Spec PyProof.Rows L2
section
variable {prog : Program} {w : World} {A : Around} {E : Value → Shared → Prop} {s : Shared}
theorem adj_rev (n : Nat) : Builtin.Slice.sliceAdjust none none (-1) (n : Int) = ((n : Int) - 1, -1) := by
  unfold Builtin.Slice.sliceAdjust
  simp
theorem places_rev (n : Nat) : Builtin.Slice.slicePlaces ((n : Int) - 1) (-1) (-1) = n := by
  unfold Builtin.Slice.slicePlaces
  simp
  all_goals omega
theorem sliceApplied_rev {sl : Addr} {vl vu vs : Value} {n : Nat} {Q : Int × Int × Nat → Shared → Prop} (hs : s.heap.IsSliceOf sl vl vu vs) (pl : IsPart vl none) (pu : IsPart vu none) (ps : IsPart vs (some (-1)))
    (h : Q (((n : Int) - 1), -1, n) s) : wpAny (model prog w) A (Builtin.Slice.sliceApplied (.ref sl) (pure (n : Int))) Q E s := by
  obtain ⟨os, hos, hcs, hds⟩ := id hs
  unfold Builtin.Slice.sliceApplied Builtin.Slice.sliceFields
  refine wpAny_bind (wpAny_bind (wpAny_field hos hds (x := vl) rfl (wpAny_bind (wpAny_field hos hds (x := vu) rfl (wpAny_bind (wpAny_field hos hds (x := vs) rfl (wpAny_pure ?_)))))))
  refine wpAny_bind (HT.slicePart_ ps ?_)
  show wpAny _ _ (if ((-1 : Int) == 0) = true then _ else _) _ _ s
  rw [if_neg (by decide)]
  refine wpAny_bind (HT.slicePart_ pl (wpAny_bind (HT.slicePart_ pu (wpAny_bind (wpAny_pure ?_)))))
  show wpAny _ _ (match Builtin.Slice.sliceAdjust none none (-1) (n : Int) with | (lo, hi) => pure (lo, (-1 : Int), Builtin.Slice.slicePlaces lo hi (-1))) _ _ s
  rw [adj_rev n]
  show wpAny _ _ (pure (((n : Int) - 1), (-1 : Int), Builtin.Slice.slicePlaces ((n : Int) - 1) (-1) (-1))) _ _ s
  rw [places_rev]
  exact wpAny_pure h
theorem fm_congr {α β : Type} {f g : α → Option β} : ∀ {l : List α}, (∀ m ∈ l, f m = g m) → l.filterMap f = l.filterMap g
  | [], _ => rfl
  | x :: l, h => by
    rw [List.filterMap_cons, List.filterMap_cons, h x List.mem_cons_self, fm_congr fun m hm => h m (List.mem_cons_of_mem _ hm)]
theorem pick_rev (xs : Array Value) : ((List.range xs.size).filterMap fun (m : Nat) => xs[(((xs.size : Int) - 1) + (m : Int) * (-1)).toNat]?).toArray = xs.toList.reverse.toArray := by
  have e1 := PySem.W.krv_pick xs
  unfold slicePick at e1
  rw [PySem.W.krv_bounds] at e1
  have e1 : ((sliceRange ((xs.size : Int) - 1) (-1) (-1)).filterMap (xs[·]?)).toArray = xs.toList.reverse.toArray := e1
  rw [PySem.W.krv_sliceRange, List.filterMap_map] at e1
  rw [← e1]
  congr 1
  refine fm_congr fun m hm => ?_
  have := List.mem_range.mp hm
  show xs[_]? = xs[xs.size - 1 - m]?
  congr 1
  omega
theorem getItem_tuple_rev {t sl : Addr} {items : Array Value} {vl vu vs : Value} {Q : Value → Shared → Prop} (ht : IsTup s.heap t items) (hs : s.heap.IsSliceOf sl vl vu vs) (pl : IsPart vl none) (pu : IsPart vu none) (ps : IsPart vs (some (-1)))
    (h : Q (.ref s.heap.objs.size) { s with heap := s.heap.push { cls := .type "tuple", data := .seq items.toList.reverse.toArray } })
    (hsz : items.size ≤ sizeLine) : wpAny (model prog w) A (getItem (.ref t) (.ref sl)) Q E s := by
  have htake : sizeOk (.seq items.toList.reverse.toArray) := by
    show items.toList.reverse.toArray.size ≤ sizeLine
    rw [List.size_toArray, List.length_reverse, Array.length_toList]
    exact hsz
  obtain ⟨os, hos, hcs, hds⟩ := id hs
  have hTs : s.TypeIs (.ref sl) "slice" := ⟨os, hos, hcs⟩
  unfold getItem
  try with_reducible refine wpAny_holding ?_
  first | refine wpAny_bind (wpAny_pure ?_) | skip
  refine wpAny_bind (wpAny_sequenceKey ht.typeIs (by decide) ?_)
  refine wpAny_bind (wpAny_callSpecial?_slot (name := Str.ofString "__getitem__") ht.typeIs PyProof.Rows.slot_tuple_getitem
    (wpAny_call_entry PyProof.Rows.slot_tuple_getitem ht.typeIs PyProof.Rows.entry_tuple_getitem ?_ (PyProof.Rows.args_tuple_getitem _ _)))
  show wpAny _ _ (Builtin.Tuple.tupleItemsOf (.ref t) >>= _) _ _ s
  refine wpAny_bind (PyProof.Rows.tupleItemsOf_ ht ?_)
  refine wpAny_bind (wpAny_typeOf hTs ?_)
  rw [if_pos (by decide)]
  refine wpAny_bind (sliceApplied_rev hs pl pu ps ?_)
  show wpAny _ _ (if ((((items.size : Int) - 1) == 0 && (-1 : Int) == 1 && items.size == items.size) = true) then _ else _) _ _ s
  rw [if_neg (by simp), pick_rev]
  first
    | exact wpAny_bind (m := Builtin.Tuple.tupleExact _) (wpAny_newObj_type (wpAny_pure ⟨_, rfl, wpAny_pure h⟩) htake)
    | exact wpAny_bind (m := Builtin.Tuple.tupleExact _) (wpAny_newObj_type (wpAny_bind (wpAny_pure (wpAny_pure ⟨_, rfl, wpAny_pure h⟩))) htake)
    | exact wpAny_bind (wpAny_bind (m := Builtin.Tuple.tupleExact _) (wpAny_newObj_type (wpAny_pure (wpAny_pure ⟨_, rfl, wpAny_pure h⟩)) htake))
    | exact wpAny_bind (wpAny_bind (m := Builtin.Tuple.tupleExact _) (wpAny_newObj_type (wpAny_pure ⟨_, rfl, wpAny_pure h⟩) htake))
end
section
variable {X : Cx} {ca : Nat → Addr} {W : WX} {a : Expr} {f : Rf.Env → Mem → Res D} {pos : Pos}
def tRevT (K : PySem.W.Frag) (te : TE) : TE := fun σ H Q => te σ H fun x H1 => ∃ a xs, x = .ref a ∧ SqT K H1 a xs ∧ ∀ p, H1 p = none → Q (.ref p) (upd H1 p (.tup xs.reverse))
theorem pe_revT {e : Expr} {te : TE} {k : Nat} {p1 p2 p3 pos : Pos} (he : PE X e te) : PE X (.Subscript e (.Slice none none (some (.UnaryOp .USub (.Constant (.int 1) k p1) p2)) p3) pos) (tRevT X.K te) := by
  refine ⟨fun pins s σ H Q I h => ?_⟩
  refine Subscript_ (thn (he.run pins s σ H _ I h) fun v s1 ⟨x, H1, I1, r1, q1⟩ => ?_)
  obtain ⟨a, xs, ex, hx, q⟩ := q1
  subst ex
  cases r1
  have hst : PO X (some (.UnaryOp .USub (.Constant (.int 1) k p1) p2)) (tPart (tUn (rU fun i => .int (-i)) (tC (.int 1)))) := po_some (pe_un un_neg pe_int)
  refine wpAny_Slice (thn (po_none.run pins s1 σ H1 (fun o H2 => o = none ∧ H2 = H1) I1 ⟨rfl, rfl⟩) fun vl s2 ⟨l, H2, I2, pl, el, e2⟩ => ?_)
  subst el e2
  refine thn (po_none.run pins s2 σ H2 (fun o H3 => o = none ∧ H3 = H2) I2 ⟨rfl, rfl⟩) fun vu s3 ⟨u, H3, I3, pu, eu, e3⟩ => ?_
  subst eu e3
  refine thn (hst.run pins s3 σ H3 (fun o H4 => o = some (-1) ∧ H4 = H3) I3 ⟨1, rfl, -1, rfl, rfl, rfl⟩) fun vs s4 ⟨o, H4, I4, ps, eo, e4⟩ => ?_
  subst eo e4
  have I5 : Inv X pins σ H4 { s4 with heap := s4.heap.push { cls := .type "slice", data := .fields #[vl, vu, vs] } } := I4.kept (t' := s4.toks) fun b ob q => Heap.get?_push_of_some _ q
  obtain ⟨its, r, ht, hz⟩ := I5.tuple hx
  have hlen := r.length
  show wpAny (model X.prog X.w) X.A (subscriptTail e (.Slice none none (some (.UnaryOp .USub (.Constant (.int 1) k p1) p2)) p3) (.ref a) (.ref s4.heap.objs.size)) (EP X pins σ Q) X.xe { s4 with heap := s4.heap.push { cls := .type "slice", data := .fields #[vl, vu, vs] } }
  refine tail_any (ops := [.ref a, .ref s4.heap.objs.size]) ht.typeIs PyProof.Rows.slot_tuple_getitem.lookup ?_ (by with_unfolding_all rfl)
  refine getItem_tuple_rev ht (Heap.IsSliceOf.new _ vl vu vs) pl pu ps ?_ (by rw [List.size_toArray]; omega)
  refine ⟨.ref _, _, I5.laid (t' := s4.toks) (o := .tup xs.reverse) (fun b ob q => Heap.get?_push_of_some _ q) (Nat.le_refl _) ?_, rfl, q _ (I5.hok.fresh (Nat.le_refl _))⟩
  exact ⟨by rw [List.length_reverse]; exact hz, _, r.reverse, IsTup.new _ _⟩
theorem e_revA {k : Nat} {p1 p2 p3 : Pos} (ha : PE X a (tE X.K ca W f)) : PE X (.Subscript a (.Slice none none (some (.UnaryOp .USub (.Constant (.int 1) k p1) p2)) p3) pos)
    (tE X.K ca W fun env M => (f env M).bind fun x M => lift (eRev x) M) := by
  refine ⟨fun pins s σ H R I ⟨p, F, env, M, rm, re, q⟩ => ?_⟩
  have q : At X.K ca W σ (Rel X.K) p F H ((f env M).bind fun x M => lift (eRev x) M) R := q
  cases z : f env M with
  | none => rw [z] at q; obtain ⟨r, e, _⟩ := q; cases e
  | some r =>
    rw [z] at q
    cases r with
    | er x M' =>
      have q : At X.K ca W σ (Rel X.K) p F H (some (.er x M')) R := q
      exact (pe_revL ha).run pins s σ H R I ⟨p, F, env, M, rm, re, by rw [z]; exact q.erI⟩
    | ok d M' =>
      have q : At X.K ca W σ (Rel X.K) p F H (lift (eRev d) M') R := q
      cases d with
      | lst xs =>
        have q1 : At X.K ca W σ (Rel X.K) p F H (f env M) (fun v H1 => ∃ a xs, v = .ref a ∧ SqL X.K H1 a xs ∧ ∀ z, H1 z = none → R (.ref z) (upd H1 z (.lst xs.reverse))) := by
          rw [z]
          refine ⟨_, rfl, fun p' F' H' v s' rm' rel => ?_⟩
          cases rel with
          | lst h1 r1 => exact ⟨_, _, rfl, .inl (.inl (rm'.fro _ _ h1)), fun z hz => new_lst rm' hz r1.reverse ((At.new (d := .lst xs.reverse) (M := M') q) |> fun k p2 F2 H2 v2 s2 => k p2 F2 H2 v2 (s'.trans s2))⟩
        exact (pe_revL ha).run pins s σ H R I ⟨p, F, env, M, rm, re, q1⟩
      | tup xs =>
        have q1 : At X.K ca W σ (Rel X.K) p F H (f env M) (fun v H1 => ∃ a xs, v = .ref a ∧ SqT X.K H1 a xs ∧ ∀ z, H1 z = none → R (.ref z) (upd H1 z (.tup xs.reverse))) := by
          rw [z]
          refine ⟨_, rfl, fun p' F' H' v s' rm' rel => ?_⟩
          cases rel with
          | tup h1 r1 => exact ⟨_, _, rfl, h1.sq rm', fun z hz => new_tup rm' hz r1.reverse ((At.new (d := .tup xs.reverse) (M := M') q) |> fun k p2 F2 H2 v2 s2 => k p2 F2 H2 v2 (s'.trans s2))⟩
        exact (pe_revT ha).run pins s σ H R I ⟨p, F, env, M, rm, re, q1⟩
      | _ => obtain ⟨r, e, _⟩ := q; cases e
end
end Rf
end T_RfRev
section T_RfMore
set_option Elab.async false
set_option linter.all false
set_option maxRecDepth 100000
set_option maxHeartbeats 1000000
/-! Rf: f-strings, dict displays, counting, stores into dicts in one assignment -/
namespace Rf
open PySem PySem.Spec PyProof.Rows L2
section
variable {X : Cx} {ca : Nat → Addr} {W : WX} {e a b c : Expr} {es : List Expr} {f g h : Rf.Env → Mem → Res D} {pos : Pos}
theorem e_fmt (ha : PE X a (tE X.K ca W f)) : PE X (.FormattedValue a (-1) none pos) (tE X.K ca W fun env M => (f env M).bind fun x M => lift (eFmt x) M) := by
  refine pe_imp (pe_fmt ha) fun σ H Q ⟨p, F, env, M, rm, re, q⟩ => ?_
  refine ⟨p, F, env, M, rm, re, q.bind.imp fun x H1 ⟨p1, F1, M1, d, s1, rm1, r1, q1⟩ => ?_⟩
  obtain ⟨r, e1, q2⟩ := q1.lift_
  cases r1 with
  | str y =>
    have e1 : (if y.length ≤ sizeLine then some (D.str y) else none) = some r := e1
    split at e1
    · rename_i hl; cases e1; exact .inl ⟨y, rfl, hl, q2 _ _ _ _ (Step.refl ..) rm1 (.str _)⟩
    · cases e1
  | int i =>
    have e1 : (if i.natAbs.log2 < 1920 then some (D.str (toString i)) else none) = some r := e1
    split at e1
    · rename_i hl; cases e1; exact .inr ⟨i, rfl, hl, q2 _ _ _ _ (Step.refl ..) rm1 (.str _)⟩
    · cases e1
  | _ => cases e1
/-- the parts of an f-string -/
inductive PJE (X : Cx) (ca : Nat → Addr) (W : WX) (cl : Calls) : List Expr → CEs → Prop where
  | nil : PJE X ca W cl [] .nil
  | cons {e : Expr} {ce : CE} {es : List Expr} {ces : CEs} (h : PE X e (tE X.K ca W (ev cl ce))) (r : PJE X ca W cl es ces) : PJE X ca W cl (e :: es) (.cons ce ces)
def tJl (K : PySem.W.Frag) (ca : Nat → Addr) (W : WX) (cl : Calls) : CEs → List TE
  | .nil => []
  | .cons ce ces => tE K ca W (ev cl ce) :: tJl K ca W cl ces
theorem PJE.pj {cl : Calls} {es : List Expr} {ces : CEs} (h : PJE X ca W cl es ces) : PJ X es (tJl X.K ca W cl ces) := by
  induction h with
  | nil => exact .nil
  | cons h r ih => exact .cons h ih
theorem js_read {cl : Calls} {σ : L2.St} {Q : VK} : ∀ (ces : CEs) (acc : Str) (p : Ph) (F H : Hp) (env : Rf.Env) (M : Mem), RM X.K p F M H → RE X.K p F env σ → At X.K ca W σ (Rel X.K) p F H (evJ cl ces acc env M) Q →
    tJs (tJl X.K ca W cl ces) acc σ H fun out H1 => Q (.str out) H1
  | .nil, acc, p, F, H, env, M, rm, re, q => by
    have q : At X.K ca W σ (Rel X.K) p F H (ok (.str acc) M) Q := q
    show Q (.str acc) H
    exact q.ok_ rm (.str _)
  | .cons ce ces, acc, p, F, H, env, M, rm, re, q => by
    have q : At X.K ca W σ (Rel X.K) p F H ((ev cl ce env M).bind fun x M => match x with
      | .str y => if (acc ++ y).length ≤ sizeLine then evJ cl ces (acc ++ y) env M else none
      | _ => none) Q := q
    refine ⟨p, F, env, M, rm, re, q.bind.imp fun x H1 ⟨p1, F1, M1, d, s1, rm1, r1, q1⟩ => ?_⟩
    cases r1 with
    | str y =>
      have q1 : At X.K ca W σ (Rel X.K) p1 F1 H1 (if (acc ++ y).length ≤ sizeLine then evJ cl ces (acc ++ y) env M1 else none) Q := q1
      obtain ⟨hl, q2⟩ := q1.cond
      exact ⟨y, rfl, hl, js_read ces (acc ++ y) p1 F1 H1 env M1 rm1 (re.mono s1.toLe) q2⟩
    | _ => obtain ⟨r, e, _⟩ := q1; cases e
theorem e_fstr {cl : Calls} {v1 v2 : Expr} {rest : List Expr} {ces : CEs} (h : PJE X ca W cl (v1 :: v2 :: rest) ces) : PE X (.JoinedStr (v1 :: v2 :: rest) pos) (tE X.K ca W fun env M => evJ cl ces Str.empty env M) :=
  pe_imp (pe_joined h.pj) fun σ H Q ⟨p, F, env, M, rm, re, q⟩ => js_read ces Str.empty p F H env M rm re q
/-! ### list.count of texts -/
def eqs (x : Str) (v : Value) : Bool := match v with
  | .str y _ => y == x
  | _ => false
theorem eqs_gives {x : Str} {t : Tok} : ∀ {us : List Value} {l : List Str}, Vals (l.map V.str) us → ∀ y ∈ us, MeetsSeq.EqGives y (.str x t) (eqs x y)
  | us, [], h => fun y hy => by rw [List.map_nil] at h; cases h; cases hy
  | us, a :: l, h => fun y hy => by
    rw [List.map_cons] at h
    cases h with
    | cons r rr =>
      obtain ⟨u, rfl⟩ := r
      rcases List.mem_cons.mp hy with e | e
      · rw [e]; exact eqGives_str a x u t
      · exact eqs_gives rr y e
theorem eqs_count {x : Str} : ∀ {us : List Value} {l : List Str}, Vals (l.map V.str) us → us.countP (eqs x) = (l.filter fun y => decide (y = x)).length
  | us, [], h => by rw [List.map_nil] at h; cases h; rfl
  | us, a :: l, h => by
    rw [List.map_cons] at h
    cases h with
    | cons r rr =>
      obtain ⟨u, rfl⟩ := r
      have ih := eqs_count (x := x) rr
      rw [List.countP_cons, ih, List.filter_cons]
      show _ + (if (a == x) = true then 1 else 0) = _
      by_cases hx : a = x
      · subst hx; simp
      · simp [hx]
theorem mt_countD : MtR X "list.count" (fun x xs => rA X.K (fun _ => bCount) (x :: xs)) := by
  intro pins s σ H x xs v us Q I rx rs h
  obtain ⟨p, F, M, ds, d, rm, rl, he, q⟩ := h
  have he : bCount ds = some d := he
  unfold bCount at he
  split at he
  · rename_i xs0 x' heq
    split at he
    · rename_i l hl
      cases he
      obtain ⟨a, b, e, h1, h2⟩ := two_of rl
      cases e
      cases h2
      cases h1 with
      | @lst ad vs _ h s1 =>
        have e2 := strs_of _ _ _ s1 hl
        subst e2
        cases rx
        obtain ⟨u, rfl, ru⟩ := rs.one
        obtain ⟨t, rfl⟩ := ru
        have hs : SqL X.K H ad (l.map V.str) := .inl (.inl (rm.fro _ _ h))
        obtain ⟨its, rv, ⟨⟨cls, dd, data, sl⟩, n, ho, hc, hdn, hd⟩, hlen⟩ := I.list hs
        simp only at hc hd
        subst hc hd
        refine call_meets PySem.F.slot_list_count ⟨_, ho, rfl⟩ PySem.F.entry_list_count (PySem.F.args_list_count_2 _ _)
          (SeqAt.list_countAt ad its.toArray n dd sl (.str _ t) (eqs _)) ⟨ho, fun y hy => (eqs_gives rv y (by simpa using hy)).at _ _, ?_⟩
        have ec := eqs_count (x := x') rv
        refine ⟨.int ((l.filter fun y => decide (y = x')).length : Nat), H, I.tok _, ⟨s.toks, ?_⟩, q _ _ _ _ (Step.refl ..) rm (.int _)⟩
        show Value.int ((its.toArray.toList.countP (eqs x') : Nat) : Int) s.toks = Value.int (((l.filter fun y => decide (y = x')).length : Nat) : Int) s.toks
        rw [show its.toArray.toList = its from rfl, ec]
    · cases he
  · cases he
theorem e_count {apos : Pos} (ha : PE X a (tE X.K ca W f)) (hes : PE X e (tE X.K ca W g)) (hs : isStar e = false) (hp : plainRecv a = true) (hl : (apos.endLine == pos.line) = true) :
    PE X (.Call (.Attribute a "count" apos) [e] [] pos) (tE X.K ca W fun env M => (f env M).bind fun x M => (lift (recv M .count x) M).bind fun _ M => ((g env M).bind fun y M => (ok [] M).bind fun ys M => ok (y :: ys) M).bind fun xs M => lift (eBi M .count (x :: xs)) M) := by
  refine pe_imp (pe_bm PySem.F.plainAttrs_list PySem.F.slot_list_count PySem.F.type_list_count mt_countD ha (pa_cons hes pa_nil (star_cons hs)) (base_of hp) (few1 hs) hl (star_cons hs) rfl) fun σ H Q ⟨p, F, env, M, rm, re, q⟩ => ?_
  refine ⟨p, F, env, M, rm, re, q.bind.imp fun x H1 ⟨p1, F1, M1, d, s1, rm1, r1, q1⟩ => ?_⟩
  obtain ⟨z, e1, q2⟩ := lift_some q1
  cases r1 with
  | @lst ad vs ds h1 rs1 =>
    refine ⟨.inl ⟨rfl, vs, .inl (.inl (rm1.fro _ _ h1))⟩, p1, F1, env, M1, rm1, re.mono s1.toLe, ?_⟩
    refine ((q2.bind (rel1 := Rels X.K)).bind (rel1 := Rel X.K) (Q := fun vs H2 => ∃ p1' F1' M1' d, Step p1 F1 H1 p1' F1' H2 ∧ RM X.K p1' F1' M1' H2 ∧ Rels X.K p1' F1' vs d ∧ At X.K ca W σ (Rel X.K) p1' F1' H2 (lift (eBi M1' .count (.lst ds :: d)) M1') Q)).imp fun y H2 ⟨p2, F2, M2, e, s2, rm2, r2, q3⟩ => ?_
    have q4 := (At.ok_ (v := [y]) rm2 q3 (.cons r2 .nil))
    obtain ⟨p3, F3, M3, ds3, s3, rm3, r3, q5⟩ := q4
    obtain ⟨r, e5, q6⟩ := q5.lift_
    have l3 := s3.toLe
    exact ⟨p3, F3, M3, _, r, rm3, .cons (.lst (l3.lst _ _ h1) (rs1.mono l3)) r3, e5, q6⟩
  | _ => cases e1
/-! ### a sum that is to change -/
theorem op_addC {X : Cx} : OpR X (binaryOp .Add) (fun x y H Q => ∃ p F M d e r M', RM X.K p F M H ∧ Rel X.K p F x d ∧ Rel X.K p F y e ∧ eAddM M d e = some (r, M') ∧ ∀ p' F' H' v, Step p F H p' F' H' → RM X.K p' F' M' H' → Rel X.K p' F' v r → Q v H') := by
  intro pins s σ H x y v u Q I rx ry h
  obtain ⟨p, F, M, d, e, r, M', rm, r1, r2, he, q⟩ := h
  cases r1 <;> cases r2 <;> first | (cases he; done) | skip
  case lst.lst _ _ a h1 s1 _ _ b h2 s2 =>
    have he : (if a.length + b.length ≤ sizeLine ∧ D.lows 0 (a ++ b) = true then some (D.cell M.length, M ++ [.lst (a ++ b)]) else none) = some (r, M') := he
    split at he
    · cases he
      rename_i hl
      exact op_cat pins s σ H _ _ v u Q I rx ry ⟨_, _, _, _, rfl, rfl, rm.fro _ _ h1, rm.fro _ _ h2, by rw [s1.length, s2.length]; exact hl.1, fun z hz => new_cell (c := .lst (a ++ b)) rm hz ⟨_, upd_same, (s1.append s2).mono (le_cell rm), hl.2⟩ q⟩
    · cases he
  case cell.lst n _ h1 _ _ b h2 s2 =>
    have he : (match M[n]? with
      | some (.lst a) => if a.length + b.length ≤ sizeLine ∧ D.lows 0 (a ++ b) = true then some (D.cell M.length, M ++ [.lst (a ++ b)]) else none
      | _ => none) = some (r, M') := he
    split at he
    · rename_i a hm
      split at he
      · cases he
        rename_i hl
        obtain ⟨_, xs, e1, s1, _⟩ := rm.cell _ _ _ h1 hm (by intro z; cases z)
        exact op_cat pins s σ H _ _ v u Q I rx ry ⟨_, _, _, _, rfl, rfl, e1, rm.fro _ _ h2, by rw [s1.length, s2.length]; exact hl.1, fun z hz => new_cell (c := .lst (a ++ b)) rm hz ⟨_, upd_same, (s1.append s2).mono (le_cell rm), hl.2⟩ q⟩
      · cases he
    · cases he
theorem e_addM (ha : PE X a (tE X.K ca W f)) (hb : PE X b (tE X.K ca W g)) :
    PE X (.BinOp a .Add b pos) (tE X.K ca W fun env M => (f env M).bind fun x M => (g env M).bind fun y M => match eAddM M x y with
      | some (d, M) => ok d M
      | none => none) := by
  refine pe_imp (pe_op op_addC ha hb) fun σ H Q ⟨p, F, env, M, rm, re, q⟩ => ?_
  refine ⟨p, F, env, M, rm, re, q.bind.imp fun x H1 ⟨p1, F1, M1, d, s1, rm1, r1, q1⟩ => ?_⟩
  refine ⟨p1, F1, env, M1, rm1, re.mono s1.toLe, q1.bind.imp fun y H2 ⟨p2, F2, M2, e, s2, rm2, r2, q2⟩ => ?_⟩
  split at q2
  · rename_i r M' hr
    exact ⟨p2, F2, M2, d, e, r, M', rm2, r1.mono s2.toLe, r2, hr, q2.new⟩
  · obtain ⟨r, e, _⟩ := q2; cases e
end
/-! ### a new cell out of a thing that stands -/
section
variable {K : PySem.W.Frag} {p1 p2 : Ph} {F1 F2 H1 H : Hp} {M : Mem} {q : Addr} {c : Cell}
theorem step_adopt (s : Step p1 F1 H1 p2 F2 H) (rm : RM K p2 F2 M H) (h : H1 q = none) : Step p1 F1 H1 (phNew p2 M.length q) F2 H where
  toLe := s.toLe.trans (le_cell rm)
  keep := s.keep
  there := s.there
  new := fun n a e => by
    by_cases hn : n = M.length
    · subst hn; rw [phNew_same] at e; cases e; exact .inr h
    · rw [phNew_ne hn] at e; exact s.new n a e
  fnew := s.fnew
theorem rm_adopt (r : RM K p2 F2 M H) (hF : F2 q = none) (hp : ∀ n, p2 n ≠ some q) (hH : H q ≠ none) (hc : CellOk K (phNew p2 M.length q) F2 H q c) : RM K (phNew p2 M.length q) F2 (M ++ [c]) H where
  fro := r.fro
  dom := fun n => by
    rw [List.length_append, List.length_singleton]
    by_cases hn : n = M.length
    · subst hn; rw [phNew_same]; exact ⟨fun _ => ⟨q, rfl⟩, fun _ => Nat.lt_succ_self _⟩
    · rw [phNew_ne hn, ← r.dom n]; omega
  inj := fun n m a e1 e2 => by
    by_cases hn : n = M.length
    · by_cases hm : m = M.length
      · rw [hn, hm]
      · subst hn; rw [phNew_same] at e1; cases e1
        rw [phNew_ne hm] at e2
        exact absurd e2 (hp m)
    · rw [phNew_ne hn] at e1
      by_cases hm : m = M.length
      · subst hm; rw [phNew_same] at e2; cases e2
        exact absurd e1 (hp n)
      · rw [phNew_ne hm] at e2; exact r.inj n m a e1 e2
  liv := fun n a e => by
    by_cases hn : n = M.length
    · subst hn; rw [phNew_same] at e; cases e; exact hH
    · rw [phNew_ne hn] at e; exact r.liv n a e
  cell := fun n a d e1 e2 hd => by
    by_cases hn : n = M.length
    · subst hn
      rw [phNew_same] at e1; cases e1
      rw [List.getElem?_append_right (Nat.le_refl _), Nat.sub_self] at e2
      cases e2
      exact ⟨hF, hc⟩
    · rw [phNew_ne hn] at e1
      have hlt : n < M.length := (r.dom n).mpr ⟨a, e1⟩
      rw [List.getElem?_append_left hlt] at e2
      obtain ⟨h1, h2⟩ := r.cell n a d e1 e2 hd
      exact ⟨h1, h2.keep (le_cell r) rfl⟩
end
/-! ### {k: v, ..} -/
def keyE (k : Key) : Expr → Bool
  | .Constant (.str s) _ _ => match k with | .inr z => decide (s = z) | _ => false
  | .Constant (.int i) _ _ => match k with | .inl j => decide (i = j) | _ => false
  | _ => false
section
variable {X : Cx} {ca : Nat → Addr} {W : WX} {pos : Pos}
theorem e_key {k : Key} {e : Expr} (h : keyE k e = true) : PE X e (tC (kV k)) := by
  cases e <;> first | (cases h; done) | skip
  rename_i c j p
  cases c <;> first | (cases h; done) | skip
  · cases k <;> first | (cases h; done) | skip
    cases (of_decide_eq_true h : _ = _)
    exact pe_int
  · cases k <;> first | (cases h; done) | skip
    cases (of_decide_eq_true h : _ = _)
    exact pe_str
/-- a display's parts -/
inductive DE (X : Cx) (ca : Nat → Addr) (W : WX) (cl : Calls) : List (Option Expr) → List Expr → List Key → CEs → Prop where
  | nil : DE X ca W cl [] [] [] .nil
  | cons {ke e : Expr} {kes : List (Option Expr)} {es : List Expr} {k : Key} {ks : List Key} {ce : CE} {ces : CEs} (hk : keyE k ke = true) (h : PE X e (tE X.K ca W (ev cl ce))) (r : DE X ca W cl kes es ks ces) : DE X ca W cl (some ke :: kes) (e :: es) (k :: ks) (.cons ce ces)
def tDl (K : PySem.W.Frag) (ca : Nat → Addr) (W : WX) (cl : Calls) : List Key → CEs → List (TE × TE)
  | k :: ks, .cons ce ces => (tC (kV k), tE K ca W (ev cl ce)) :: tDl K ca W cl ks ces
  | _, _ => []
theorem DE.pps {cl : Calls} {kes : List (Option Expr)} {es : List Expr} {ks : List Key} {ces : CEs} (h : DE X ca W cl kes es ks ces) : PPs X pos kes es (tDl X.K ca W cl ks ces) ∧ kes.all (·.isSome) = true ∧ kes.length = es.length ∧ ks.length = kes.length := by
  induction h with
  | nil => exact ⟨pps_nil, rfl, rfl, rfl⟩
  | cons hk h r ih =>
    obtain ⟨h1, h2, h3, h4⟩ := ih
    refine ⟨pps_cons (e_key hk) h h1, ?_, by rw [List.length_cons, List.length_cons, h3], by rw [List.length_cons, List.length_cons, h4]⟩
    rw [List.all_cons, h2]; rfl
theorem dl_read {cl : Calls} {σ : L2.St} {Q : List (V × V) → Hp → Prop} : ∀ (ks : List Key) (ces : CEs) (es : List Expr) (kes : List (Option Expr)), DE X ca W cl kes es ks ces → ∀ (p : Ph) (F H : Hp) (env : Rf.Env) (M : Mem), RM X.K p F M H → RE X.K p F env σ →
    At X.K ca W σ (Rels X.K) p F H (evs cl ces env M) (fun vs H' => Q ((ks.zip vs).map fun kv => (kV kv.1, kv.2)) H') → tPairs (tDl X.K ca W cl ks ces) σ H Q
  | [], .nil, _, _, .nil, p, F, H, env, M, rm, re, q => by
    have q : At X.K ca W σ (Rels X.K) p F H (ok [] M) _ := q
    exact (At.sub (γ := Nat) q) p F H [] (Step.refl ..) rm .nil
  | k :: ks, .cons ce ces, _, _, .cons hk h r, p, F, H, env, M, rm, re, q => by
    have q : At X.K ca W σ (Rels X.K) p F H ((ev cl ce env M).bind fun x M => (evs cl ces env M).bind fun xs M => ok (x :: xs) M) _ := q
    show tE X.K ca W (ev cl ce) σ H fun y H2 => tPairs (tDl X.K ca W cl ks ces) σ H2 fun ps H3 => Q ((kV k, y) :: ps) H3
    refine ⟨p, F, env, M, rm, re, (q.bind (rel1 := Rel X.K)).imp fun x H1 ⟨p1, F1, M1, d, s1, rm1, r1, q1⟩ => ?_⟩
    refine dl_read ks ces _ _ r p1 F1 H1 env M1 rm1 (re.mono s1.toLe) ((q1.bind (rel1 := Rels X.K)).imp fun xs H2 ⟨p2, F2, M2, ds, s2, rm2, r2, q2⟩ => ?_)
    exact (At.sub (γ := Nat) q2) p2 F2 H2 (x :: xs) (Step.refl ..) rm2 (.cons (r1.mono s2.toLe) r2)
theorem merge_zip : ∀ (kvs : List (Key × V)) (l : List (Key × D)) (ks : List Key) (xs : List V), ks.length = xs.length → ∃ ys, mergeK (ks.zip xs) kvs = (kvs.foldl (fun a p => putD a.1 a.2 p.1 p.2) (ks, xs)).1.zip ys ∧ ys = (kvs.foldl (fun a p => putD a.1 a.2 p.1 p.2) (ks, xs)).2 ∧ (kvs.foldl (fun a p => putD a.1 a.2 p.1 p.2) (ks, xs)).1.length = ys.length
  | [], l, ks, xs, h => ⟨xs, rfl, rfl, h⟩
  | kv :: kvs, l, ks, xs, h => by
    obtain ⟨ys, h1, h2, h3⟩ := merge_zip kvs l (putD ks xs kv.1 kv.2).1 (putD ks xs kv.1 kv.2).2 (putD_len h)
    refine ⟨ys, ?_, h2, h3⟩
    show mergeK (putK (ks.zip xs) kv.1 kv.2) kvs = _
    rw [putK_put h]
    exact h1
theorem fold_rel {K : PySem.W.Frag} {p : Ph} {F : Hp} : ∀ (ks : List Key) (vs : List V) (ds : List D) (k0 : List Key) (v0 : List V) (d0 : List D), Rels K p F vs ds → Rels K p F v0 d0 →
    ((ks.zip vs).foldl (fun a p => putD a.1 a.2 p.1 p.2) (k0, v0)).1 = ((ks.zip ds).foldl (fun a p => putD a.1 a.2 p.1 p.2) (k0, d0)).1 ∧ Rels K p F ((ks.zip vs).foldl (fun a p => putD a.1 a.2 p.1 p.2) (k0, v0)).2 ((ks.zip ds).foldl (fun a p => putD a.1 a.2 p.1 p.2) (k0, d0)).2
  | [], vs, ds, k0, v0, d0, r, r0 => ⟨rfl, r0⟩
  | k :: ks, [], [], k0, v0, d0, r, r0 => ⟨rfl, r0⟩
  | k :: ks, [], _ :: _, k0, v0, d0, r, r0 => by cases r
  | k :: ks, _ :: _, [], k0, v0, d0, r, r0 => by cases r
  | k :: ks, v :: vs, d :: ds, k0, v0, d0, r, r0 => by
    have h1 : Rel K p F v d := by cases r with | cons h _ => exact h
    have h2 : Rels K p F vs ds := by cases r with | cons _ h => exact h
    have e : (putD k0 v0 k v).1 = (putD k0 d0 k d).1 := putD_keys
    have ih := fold_rel ks vs ds (putD k0 v0 k v).1 (putD k0 v0 k v).2 (putD k0 d0 k d).2 h2 (r0.put h1)
    rw [List.zip_cons_cons, List.zip_cons_cons, List.foldl_cons, List.foldl_cons]
    rw [show (putD (k0, d0).1 (k0, d0).2 (k, d).1 (k, d).2) = ((putD k0 v0 k v).1, (putD k0 d0 k d).2) by rw [e]]
    exact ih
theorem lows_fold : ∀ (ks : List Key) (ds : List D) (k0 : List Key) (d0 : List D), D.lows 0 ds = true → D.lows 0 d0 = true → D.lows 0 ((ks.zip ds).foldl (fun a p => putD a.1 a.2 p.1 p.2) (k0, d0)).2 = true
  | [], ds, k0, d0, h, h0 => h0
  | k :: ks, [], k0, d0, h, h0 => h0
  | k :: ks, d :: ds, k0, d0, h, h0 => by
    rw [List.zip_cons_cons, List.foldl_cons]
    exact lows_fold ks ds _ _ (lows_cons.mp h).2 (lows_put (lows_cons.mp h).1 h0)
theorem e_dicM {cl : Calls} {kes : List (Option Expr)} {es : List Expr} {ks : List Key} {ces : CEs} (h : DE X ca W cl kes es ks ces) (h0 : kes ≠ []) (h15 : kes.length ≤ 15) :
    PE X (.Dict kes es pos) (tE X.K ca W fun env M => (evs cl ces env M).bind fun xs M => if ks.length = xs.length ∧ ks.length ≤ 15 ∧ D.lows 0 xs = true then ok (.cell M.length) (M ++ [.dic (mergeD (ks.zip xs)).1 (mergeD (ks.zip xs)).2]) else none) := by
  obtain ⟨g1, g2, g3, g4⟩ := h.pps (pos := pos)
  refine pe_imp (pe_disp g1 g2 g3 h0 h15) fun σ H Q ⟨p, F, env, M, rm, re, q⟩ => ?_
  intro z hz
  have hp : ∀ n, p n ≠ some z := fun n e => rm.liv n z e hz
  have st := step_out (o := .dK []) (Step.refl p F H) hz
  have rm0 := rm_out (o := .dK []) rm (rm.free hz) hp
  refine dl_read ks ces es kes h p F _ env M rm0 re ?_
  have q : At X.K ca W σ (Rel X.K) p F H ((evs cl ces env M).bind fun xs M => if ks.length = xs.length ∧ ks.length ≤ 15 ∧ D.lows 0 xs = true then ok (.cell M.length) (M ++ [.dic (mergeD (ks.zip xs)).1 (mergeD (ks.zip xs)).2]) else none) Q := q
  cases ze : evs cl ces env M with
  | none => rw [ze] at q; obtain ⟨r, e, _⟩ := q; cases e
  | some r =>
    rw [ze] at q
    cases r with
    | er x M' =>
      have q : At X.K ca W σ (Rel X.K) p F H (some (.er x M')) Q := q
      exact (q.move st).erI
    | ok ds M1 =>
      have q : At X.K ca W σ (Rel X.K) p F H (if ks.length = ds.length ∧ ks.length ≤ 15 ∧ D.lows 0 ds = true then ok (.cell M1.length) (M1 ++ [.dic (mergeD (ks.zip ds)).1 (mergeD (ks.zip ds)).2]) else none) Q := q
      obtain ⟨hl, q2⟩ := q.cond
      refine ⟨_, rfl, fun p1 F1 H1 vs s1 rm1 r1 => ?_⟩
      obtain ⟨k1, k2, k3⟩ := out_keep s1 upd_same hp (rm.free hz)
      refine ⟨k1, ks.zip vs, rfl, by rw [List.length_zip, r1.length, ← hl.1, Nat.min_self]; exact hl.2.1, ?_⟩
      obtain ⟨ys, m1, m2, m3⟩ := merge_zip (ks.zip vs) [] [] [] rfl
      obtain ⟨f1, f2⟩ := fold_rel ks vs ds [] [] [] r1 .nil
      have rm2 := rm_out (o := .dK (mergeK [] (ks.zip vs))) rm1 k3 k2
      have s2 := step_out (o := .dK (mergeK [] (ks.zip vs))) (st.trans s1) hz
      have s3 := step_adopt s2 rm2 hz
      refine q2.new _ _ _ _ s3 (rm_adopt rm2 k3 k2 (by rw [upd_same]; simp) ⟨ys, ?_, ?_, ?_, lows_fold ks ds [] [] hl.2.2 rfl⟩) (.cell phNew_same)
      · rw [upd_same]
        have m1 : mergeK [] (ks.zip vs) = _ := m1
        rw [m1, f1]
        rfl
      · rw [f1] at m3; exact m3
      · rw [m2]; exact f2.mono (le_cell rm2)
end
end Rf
end T_RfMore
section T_RfSetDs
set_option Elab.async false
set_option linter.all false
set_option maxRecDepth 100000
set_option maxHeartbeats 1000000
/-! Rf: d[i], d[j] = .. -/
namespace Rf
open PySem PySem.Spec PyProof.Rows L2
section
variable {X : Cx} {ca : Nat → Addr} {W : WX} {cl : Calls}
inductive SD (X : Cx) (ca : Nat → Addr) (W : WX) (cl : Calls) : List Expr → CEs → CEs → Prop where
  | nil : SD X ca W cl [] .nil .nil
  | cons {o i : Expr} {pos : Pos} {es : List Expr} {co ci : CE} {cos cis : CEs} (hs : isSlice i = false) (ho : PE X o (tE X.K ca W (ev cl co))) (hi : PE X i (tE X.K ca W (ev cl ci))) (r : SD X ca W cl es cos cis) : SD X ca W cl (.Subscript o i pos :: es) (.cons co cos) (.cons ci cis)
def tDs (K : PySem.W.Frag) (ca : Nat → Addr) (W : WX) (cl : Calls) (cos cis : CEs) : TGs := fun vs σ H Q => ∃ p F env M ds r, RM K p F M H ∧ RE K p F env σ ∧ Rels K p F vs ds ∧ setDsS cl cos cis ds env M = some r ∧ EndR K ca W p F H { nx := Q, rt := fun _ _ => False } r
theorem sd_pgs (hu : X.A.units + 1 < cLine) {es : List Expr} {cos cis : CEs} (h : SD X ca W cl es cos cis) : PGs X es (tDs X.K ca W cl cos cis) := by
  induction h with
  | nil =>
    refine pgs_imp pgs_nil fun vs σ H Q ⟨p, F, env, M, ds, r, rm, re, rs, e, q⟩ => ?_
    cases ds with
    | nil =>
      cases rs
      cases e
      exact ⟨rfl, q _ _ _ _ (Step.refl ..) rm re⟩
    | cons _ _ => cases e
  | @cons o i pos es co ci cos cis hs ho hi r ih =>
    refine pgs_imp (pgs_cons (pg_sub (pos := pos) ho hi (set_dict hu) (by intro v; cases i <;> first | rfl | (cases hs))) ih (by rfl)) fun vs σ H Q ⟨p, F, env, M, ds, r, rm, re, rs, e, q⟩ => ?_
    cases ds with
    | nil => cases e
    | cons d ds =>
      cases rs with
      | @cons v _ vs _ r1 rr =>
        have e : (ev cl co env M).to env (fun o M => (ev cl ci env M).to env fun i M => match eSetD M o i d with
          | some M => setDsS cl cos cis ds env M
          | none => none) = some r := e
        refine ⟨v, vs, rfl, p, F, env, M, rm, re, (At.to_ (rel := Rel X.K) re e q).imp fun x H1 ⟨p1, F1, M1, dx, s1, rm1, rx, r', e1, h1⟩ => ?_⟩
        have re1 := re.mono s1.toLe
        refine ⟨p1, F1, env, M1, rm1, re1, (At.to_ (rel := Rel X.K) re1 e1 h1).imp fun y H2 ⟨p2, F2, M2, dy, s2, rm2, ry, r'', e2, h2⟩ => ?_⟩
        have re2 := re1.mono s2.toLe
        have l2 := s1.toLe.trans s2.toLe
        split at e2
        · rename_i M3 e3
          obtain ⟨a, H', q1, q2, q3, q4⟩ := setD_of rm2 (rx.mono s2.toLe) ry (r1.mono l2) e3
          exact ⟨a, H', q1, q2, p2, F2, env, M3, ds, r'', q4, re2.mono q3.toLe, (rr.mono l2).mono q3.toLe, e2, h2.move q3⟩
        · cases e2
def setDsF (cl : Calls) (cos cis : CEs) (f : Rf.Env → Mem → Res D) (env : Rf.Env) (M : Mem) : SRes := (f env M).to env fun x M => match x with
  | .tup vs => if vs.length = cos.len then setDsS cl cos cis vs env M else none
  | _ => none
theorem setDsS_fl {cos cis : CEs} {ds : List D} {env : Rf.Env} {M : Mem} {fl : Fl} {e' : Rf.Env} {M' : Mem} {es : List Expr} (h : SD X ca W cl es cos cis) (e : setDsS cl cos cis ds env M = some (fl, e', M')) : fl = .nx ∨ ∃ x, fl = .exc x := by
  induction h generalizing ds M with
  | nil =>
    cases ds with
    | nil => cases e; exact .inl rfl
    | cons _ _ => cases e
  | @cons o i pos es co ci cos cis hs ho hi r ih =>
    cases ds with
    | nil => cases e
    | cons d ds =>
      have e : (ev cl co env M).to env (fun o M => (ev cl ci env M).to env fun i M => match eSetD M o i d with
        | some M => setDsS cl cos cis ds env M
        | none => none) = some (fl, e', M') := e
      cases z1 : ev cl co env M with
      | none => rw [z1] at e; cases e
      | some r1 =>
        rw [z1] at e
        cases r1 with
        | er x M1 => cases e; exact .inr ⟨x, rfl⟩
        | ok o M1 =>
          have e : (ev cl ci env M1).to env (fun i M => match eSetD M o i d with
            | some M => setDsS cl cos cis ds env M
            | none => none) = some (fl, e', M') := e
          cases z2 : ev cl ci env M1 with
          | none => rw [z2] at e; cases e
          | some r2 =>
            rw [z2] at e
            cases r2 with
            | er x M1 => cases e; exact .inr ⟨x, rfl⟩
            | ok i M2 =>
              have e : (match eSetD M2 o i d with
                | some M => setDsS cl cos cis ds env M
                | none => none) = some (fl, e', M') := e
              split at e
              · exact ih e
              · cases e
theorem sd_len {es : List Expr} {cos cis : CEs} (h : SD X ca W cl es cos cis) : cos.len = es.length := by
  induction h with
  | nil => rfl
  | cons hs ho hi r ih => show _ + 1 = _ + 1; rw [ih]
theorem s_setDs {es : List Expr} {cos cis : CEs} {e : Expr} {k : Nat} {p1 pos : Pos} {f : Rf.Env → Mem → Res D} (hu : X.A.units + 1 < cLine) (hc : X.calm = true) (h : SD X ca W cl es cos cis) (h0 : es ≠ []) (hs : isCompE e = false) (he : PE X e (tE X.K ca W f)) :
    PS X (.Assign [.Tuple es k p1] e pos) (tS X.K ca W (setDsF cl cos cis f)) := by
  have hn : ∀ es : List Expr, (∃ cos cis, SD X ca W cl es cos cis) → (assignEach es X.env).length = es.length ∧ (assignEach es X.env).findIdx? (·.1) = none ∧ (es ≠ [] → (es.any fun e => noLoc X.env.scope e) = true) := by
    intro es ⟨cos, cis, h⟩
    induction h with
    | nil => exact ⟨rfl, rfl, fun h => absurd rfl h⟩
    | @cons o i pos es co ci cos cis hs ho hi r ih =>
      rw [each_cons (X := X) rfl]
      refine ⟨by rw [List.length_cons, List.length_cons, ih.1], ?_, fun _ => rfl⟩
      rw [List.findIdx?_cons]
      simp [ih.2.1]
  obtain ⟨n1, n2, n3⟩ := hn es ⟨_, _, h⟩
  have hw : swappedStores [.Tuple es k p1] e X.env = pure none := by
    cases q : isTupX e with
    | false => exact sw_noTup q
    | true =>
      cases e <;> first | (cases q; done) | skip
      exact sw_some (n3 h0)
  refine ps_imp (ps_asg he (pg_tup (pos := p1) (k := k) hc (sd_pgs hu h) n1 n2) (by unfold swapsWithSole; exact noswap hs) hw (by rw [each_cons (X := X) rfl]; rfl)) fun Z σ H ⟨p, F, env, M, r, rm, re, z, hr⟩ => ?_
  refine ⟨p, F, env, M, rm, re, (At.to_ (rel := Rel X.K) re z hr).imp fun x H1 ⟨p1, F1, M1, d, s1, rm1, r1, r', e1, h1⟩ => ?_⟩
  cases r1 with
  | @tup ad vs ds ht rs =>
    have e1 : (if ds.length = cos.len then setDsS cl cos cis ds env M1 else none) = some r' := e1
    split at e1
    · rename_i hl
      refine ⟨ad, vs, rfl, ht.sq rm1, by rw [rs.length, hl, sd_len h], p1, F1, env, M1, ds, r', rm1, re.mono s1.toLe, rs, e1, ?_⟩
      obtain ⟨fl, e', M'⟩ := r'
      rcases setDsS_fl h e1 with rfl | ⟨x, rfl⟩
      · exact h1
      · exact h1
    · cases e1
  | _ => cases e1
end
end Rf
end T_RfSetDs
section T_RfSet
set_option Elab.async false
set_option linter.all false
set_option maxRecDepth 100000
set_option maxHeartbeats 2000000
/-! Rf: sorted(set(texts)) -/
namespace Rf
open PySem PySem.Spec PyProof.Rows L2
def keyT (e : Int × Value) : Str := match e.2 with | .str x _ => x | _ => Str.empty
def GoodT (w : World) (e : Int × Value) : Prop := ∃ x tk, e.2 = Value.str x tk ∧ e.1 = hashStr w x
/-- a set of texts at a: its members l (perhaps twice), at most n of them -/
def TxR (w : World) (h : Heap) (a : Addr) (l : List Str) (n : Nat) : Prop :=
  ∃ o es ep t, h.get? a = some o ∧ o.ExactSet ∧ o.data = .set es ep t ∧ (∀ e ∈ es.toList, GoodT w e) ∧ (es.toList.map keyT).Nodup ∧ (∀ x, x ∈ l ↔ x ∈ es.toList.map keyT) ∧
    es.size < scanBound ∧ t.fits es.size = true ∧ es.size ≤ n ∧ Ris t.place.toList ∧ (w.params.followText "set-order" = true ∨ t.led = true)
section
variable {P : Program} {w : World} {h h' : Heap} {a : Addr} {l : List Str} {n : Nat}
theorem TxR.at (R : TxR w h a l n) (k : ∀ o, h.get? a = some o → h'.get? a = some o) : TxR w h' a l n := by
  obtain ⟨o, es, ep, t, ho, r⟩ := R
  exact ⟨o, es, ep, t, k o ho, r⟩
theorem goodT_elems {es : List (Int × Value)} (g : ∀ e ∈ es, GoodT w e) : ElemsOf (strKind P w) es := fun e he => by
  obtain ⟨k, tk, h1, h2⟩ := g e he
  exact ⟨⟨k, by rw [h1]; exact strKind_is P w k tk, h2⟩, by rw [h1] <;> rfl⟩
theorem goodT_is {e : Int × Value} (g : GoodT w e) (k : Str) : (strKind P w).is k e.2 = true ↔ keyT e = k := by
  obtain ⟨k0, tk, h1, _⟩ := g
  unfold keyT
  rw [h1]
  constructor
  · intro q
    exact (strKind P w).inj _ _ _ (strKind_is P w k0 tk) q
  · rintro rfl
    exact strKind_is P w _ tk
theorem goodT_mem {es : List (Int × Value)} (g : ∀ e ∈ es, GoodT w e) (k : Str) : k ∈ es.map keyT ↔ ∃ e ∈ es, (strKind P w).is k e.2 = true := by
  rw [List.mem_map]
  constructor
  · rintro ⟨e, he, q⟩
    exact ⟨e, he, (goodT_is (g e he) k).2 q⟩
  · rintro ⟨e, he, q⟩
    exact ⟨e, he, (goodT_is (g e he) k).1 q⟩
theorem txR_new {h : Heap} {a : Addr} (ho : h.get? a = some { cls := .type "set", dict := none, data := .set #[] 0 (.fresh 0 0 (!w.params.followText "set-order")) }) : TxR w h a [] 0 :=
  ⟨_, #[], 0, _, ho, ⟨rfl, rfl, rfl⟩, rfl, (fun e he => by simp at he), (by simp), (fun k => by simp), (by decide), (by rfl), Nat.le_refl _, List.Pairwise.nil, by
    show _ ∨ (!w.params.followText "set-order") = true
    cases w.params.followText "set-order"
    · exact .inr rfl
    · exact .inl rfl⟩
end
section
variable {P : Program} {w : World} {A : Around} {E : Value → Shared → Prop} {s : Shared} {a : Addr} {l : List Str} {n : Nat}
theorem txR_tail {g : Bool → Sem Unit} (hg : ∀ (b : Bool) (s₁ : Shared) (Q' : Unit → Shared → Prop), Q' () s₁ → wpAny (model P w) A (g b) Q' E s₁)
    {o : Obj} {es : Array (Int × Value)} {ep : Nat} {t : SetTable} (ho : s.heap.get? a = some o) (hex : o.ExactSet) (hd : o.data = .set es ep t)
    {es1 : Array (Int × Value)} {t2 : SetTable} {l' : List Str} {m : Nat} (g1 : ∀ e ∈ es1.toList, GoodT w e) (nd1 : (es1.toList.map keyT).Nodup) (m1 : ∀ k, k ∈ l' ↔ k ∈ es1.toList.map keyT)
    (hb1 : es1.size < scanBound) (hm : es1.size ≤ m) (hf2 : t2.fits es1.size = true) (hr : Ris t2.place.toList) (hl : w.params.followText "set-order" = true ∨ t2.led = true) {wasDummy : Bool} {R : Option Bool → Shared → Prop}
    (hR : ∀ h', Heap.SameBut a s.heap h' → TxR w h' a l' m → R (some true) { s with heap := h' }) :
    wpAny (model P w) A (do
        storeSet a es1 t2
        if (!wasDummy && t2.tooFull) = true then do
            g (relayAll t2 es1 (SetTable.grown es1.size)).2.2
            storeSet a (relayAll t2 es1 (SetTable.grown es1.size)).1 (relayAll t2 es1 (SetTable.grown es1.size)).2.1
            pure (some true)
          else pure (some true)) R E s := by
  refine wpAny_bind (wpAny_storeSet_of ho hd ?_ (fits_of_scanBound hb1))
  have ho1 := store_at (es' := es1) (t' := t2) ho hd
  have sb1 := Heap.SameBut.update s.heap a (Obj.putSet es1 t2)
  split
  · have pm := relayAll_perm t2 es1 (SetTable.grown es1.size)
    have hf3 := relayAll_fits t2 es1 (SetTable.grown es1.size)
    have hr3 := relayAll_ris t2 es1 (SetTable.grown es1.size)
    have hl3 := relayAll_led t2 es1 (SetTable.grown es1.size)
    generalize relayAll t2 es1 (SetTable.grown es1.size) = Z at pm hf3 hr3 hl3 ⊢
    obtain ⟨es2, t3, gave⟩ := Z
    dsimp only at pm hf3 hr3 hl3 ⊢
    have hsz : es2.size = es1.size := by rw [← Array.length_toList, pm.length_eq, Array.length_toList]
    have hb2 : es2.size < scanBound := by rw [hsz]; exact hb1
    refine wpAny_bind (hg _ _ _ ?_)
    refine wpAny_bind (wpAny_storeSet_of ho1 rfl ?_ (fits_of_scanBound hb2))
    have ho2 := store_at (es' := es2) (t' := t3) ho1 rfl
    refine wpAny_pure (hR _ (sb1.trans (Heap.SameBut.update _ a _)) ?_)
    exact ⟨_, es2, _, t3, ho2, hex, rfl, fun e he => g1 e (pm.mem_iff.mp he), (pm.map keyT).nodup_iff.mpr nd1, fun k => (m1 k).trans (pm.map keyT).mem_iff.symm, hb2, by rw [hsz] at hf3 ⊢; exact hf3, by rw [hsz]; exact hm, hr3,
      hl.imp id fun z => by rw [hl3]; exact z⟩
  · exact wpAny_pure (hR _ sb1 ⟨_, es1, _, t2, ho1, hex, rfl, g1, nd1, m1, hb1, hf2, hm, hr, hl⟩)
theorem txR_add {k : Str} {tk : Tok} {Q : Bool → Shared → Prop} (R : TxR w s.heap a l n) (room : n + 1 < scanBound)
    (hQ : ∀ b h', Heap.SameBut a s.heap h' → TxR w h' a (l ++ [k]) (n + 1) → Q b { s with heap := h' }) :
    wpAny (model P w) A (setAddHashed a (.str k tk) ((strKind P w).hash k)) Q E s := by
  obtain ⟨o, es, ep, t, ho, hex, hd, g, nd, hm, hb, hf, hn, hr, hl⟩ := R
  have hkey : (strKind P w).is k (.str k tk) = true := strKind_is P w k tk
  have hsc : (Value.str k tk).scannable = true := rfl
  have hel : ElemsOf (strKind P w) es.toList := goodT_elems g
  unfold setAddHashed setAddHashedIn
  refine wpAny_holding (wpAny_bind (wpAny_setState_of ho hd hf ?_))
  dsimp only
  rw [byScan_of hsc hb hel]
  simp only [↓reduceIte]
  unfold setAddByScan
  refine wpAny_bind ?_
  refine wpAny_bind (wpAny_rule ?_)
  refine wpAny_bind (wpAny_setScan_of hkey ho hd hf hel ?_)
  cases hfi : List.findIdx? (fun e => (strKind P w).is k e.2) es.toList with
  | some j =>
    dsimp only
    obtain ⟨hj, pj, _⟩ := List.findIdx?_eq_some_iff_getElem.mp hfi
    have hSk : k ∈ es.toList.map keyT := (goodT_mem (P := P) (w := w) g k).2 ⟨es.toList[j], List.getElem_mem hj, pj⟩
    refine wpAny_pure (wpAny_pure ?_)
    exact hQ _ s.heap (Heap.SameBut.refl a s.heap) ⟨o, es, ep, t, ho, hex, hd, g, nd, fun i => by
      rw [List.mem_append, List.mem_singleton, hm i]
      exact ⟨fun z => z.elim id (fun e => e ▸ hSk), .inl⟩, hb, hf, Nat.le_succ_of_le hn, hr, hl⟩
  | none =>
    dsimp only
    have hnk : k ∉ es.toList.map keyT := fun z => by
      obtain ⟨e, he, q⟩ := (goodT_mem (P := P) (w := w) g k).1 z
      have c := List.findIdx?_eq_none_iff.mp hfi e he
      rw [q] at c
      cases c
    have hgw : ∀ (b : Bool) {s₁ : Shared} {Q' : Unit → Shared → Prop}, Q' () s₁ → wpAny (model P w) A (match b with | true => rule "set.scan.the-table-gave-way" | false => pure ()) Q' E s₁ :=
      fun b s₁ Q' q => by cases b <;> first | exact wpAny_pure q | exact wpAny_rule q
    have pm := layNew_perm t es ((strKind P w).hash k) (.str k tk)
    have hf1 := layNew_fits t es ((strKind P w).hash k) (.str k tk)
    have hr1 := layNew_ris t es ((strKind P w).hash k) (.str k tk) hr
    have hl1 := layNew_led t es ((strKind P w).hash k) (.str k tk)
    generalize layNew t es ((strKind P w).hash k) (.str k tk) = Z at pm hf1 hr1 hl1 ⊢
    obtain ⟨es1, t1, wasDummy, gave⟩ := Z
    dsimp only at pm hf1 hr1 hl1 ⊢
    rw [Array.toList_push] at pm
    have pc : es1.toList.Perm (((strKind P w).hash k, Value.str k tk) :: es.toList) := pm.trans (List.perm_append_singleton _ _)
    have pk : (es1.toList.map keyT).Perm (k :: es.toList.map keyT) := pc.map keyT
    have g1 : ∀ e ∈ es1.toList, GoodT w e := fun e he => by
      rcases List.mem_cons.mp (pc.mem_iff.mp he) with z | z
      · rw [z]; exact ⟨k, tk, rfl, rfl⟩
      · exact g e z
    have nd1 : (es1.toList.map keyT).Nodup := pk.nodup_iff.mpr (List.nodup_cons.mpr ⟨hnk, nd⟩)
    have m1 : ∀ i, i ∈ l ++ [k] ↔ i ∈ es1.toList.map keyT := fun i => by
      rw [List.mem_append, List.mem_singleton, hm i, pk.mem_iff, List.mem_cons]
      exact Or.comm
    have hsz : es1.size = es.size + 1 := by rw [← Array.length_toList, pc.length_eq, List.length_cons, Array.length_toList]
    have hb1 : es1.size < scanBound := by rw [hsz]; omega
    have hm1 : es1.size ≤ n + 1 := by rw [hsz]; omega
    have hled : w.params.followText "set-order" = true ∨ t1.led = true := hl.imp id fun z => by rw [hl1]; exact z
    have fin : ∀ h', Heap.SameBut a s.heap h' → TxR w h' a (l ++ [k]) (n + 1) → Q true { s with heap := h' } := hQ true
    refine wpAny_bind (hgw _ ?_)
    split
    · refine wpAny_bind ?_
      rw [hashByValue_scannable 8 hsc]
      refine wpAny_pure ?_
      refine txR_tail ?_ ho hex hd g1 nd1 m1 hb1 hm1 ?_ ?_ ?_ ?_
      · intro b s₁ Q' q; cases b <;> first | exact wpAny_pure q | exact wpAny_rule q
      · first | (split <;> first | exact hf1 | exact SetTable.fits_plain_off hf1) | exact hf1
      · first | (split <;> exact hr1) | exact hr1
      · first | (split <;> exact hled) | exact hled
      · intro h' sb r; dsimp only; exact wpAny_pure (fin h' sb r)
    · refine wpAny_bind (wpAny_pure ?_)
      simp only [↓reduceIte]
      refine txR_tail ?_ ho hex hd g1 nd1 m1 hb1 hm1 hf1 hr1 hled ?_
      · intro b s₁ Q' q; cases b <;> first | exact wpAny_pure q | exact wpAny_rule q
      · intro h' sb r; dsimp only; exact wpAny_pure (fin h' sb r)
theorem set_update_texts {I : Addr} {fp wr : List Addr} {G : Array GenState → Array GenState → Prop} {n : Nat} {Pv : Nat → Value → Prop} {St : Nat → Shared → Prop} {R : Result → Shared → Prop}
    (W : WalksS P w A.in1 I fp wr G n Pv St) (S : Addr) (hSf : S ∉ fp) (ns : List Str) (hn : n = ns.length) (hb : ns.length + 1 < scanBound) (hval : ∀ i v, Pv i v → ∃ k t, ns[i]? = some k ∧ v = .str k t) :
    ∀ (k i : Nat) (s : Shared), n - i = k → i ≤ n → St i s → TxR w s.heap S (ns.take i) i →
      (∀ s', Moved (S :: wr) G s s' → TxR w s'.heap S ns n → R (.ok (.ret .none)) s') →
      codeAny (model P w) A (.builtin "set.update.loop" ⟨[.ref S, .ref I], []⟩) R s := by
  have hSw : S ∉ wr := fun h => hSf (W.sub _ h)
  have hsub : ∀ b ∈ wr, b ∈ S :: wr := fun b hb => List.mem_cons_of_mem _ hb
  intro k
  induction k with
  | zero =>
    intro i s hk' hi hst hS hR
    have hin : i = n := by omega
    subst hin
    refine codeAny_builtin F.entry_set_update_loop ?_
    rw [Around.under_plainId F.plain_set_update_loop _]
    show wpAny _ A.in1 (pyNext (.ref I) >>= _) _ _ s
    refine wpAny_bind (W.done s _ _ hst fun s' hm => ?_)
    show wpAny _ A.in1 (ret Value.none) _ _ s'
    have e : ns.take i = ns := List.take_of_length_le (by omega)
    rw [e] at hS
    exact wpAny_pure (hR s' (hm.mono hsub) (hS.at fun o e => hm.heap S o hSw e))
  | succ k ih =>
    intro i s hk' hi hst hS hR
    have hlt : i < n := by omega
    refine codeAny_builtin F.entry_set_update_loop ?_
    rw [Around.under_plainId F.plain_set_update_loop _]
    show wpAny _ A.in1 (pyNext (.ref I) >>= _) _ _ s
    refine wpAny_bind (W.item i s _ _ hlt hst fun v s' hP hst' hm => ?_)
    obtain ⟨z, t, hz, rfl⟩ := hval i v hP
    have hS' : TxR w s'.heap S (ns.take i) i := hS.at fun o e => hm.heap S o hSw e
    show wpAny _ A.in1 (holding [Value.str z t] (setAdd S (.str z t)) >>= _) _ _ s'
    refine wpAny_bind (wpAny_holding ?_)
    unfold setAdd
    refine wpAny_holding ?_
    refine wpAny_bind ((strKind P w).pyHash (k := z) (strKind_is _ _ _ _) ?_)
    refine txR_add (s := { s' with toks := s'.toks + 1 }) hS' (by omega) fun b h' hsb hS2 => ?_
    have hS3 : TxR w h' S (ns.take (i + 1)) (i + 1) := by
      rw [List.take_add_one, hz]
      exact hS2
    refine wpAny_pure ⟨plainId_quiet F.plain_set_update_loop _, ih (i + 1) _ (by omega) hlt (W.frame _ s' _ _ hst' (Nat.le_succ _) fun b hb o e => ?_) hS3 fun s'' hm'' hS'' => ?_⟩
    · rw [hsb.2 b (fun h : b = S => hSf (by rw [← h]; exact hb))]; exact e
    · refine hR s'' (Moved.trans W.gtrans ((hm.mono hsub).then_heap (Nat.le_succ _) fun b o hb e => ?_) hm'') hS''
      rw [hsb.2 b (fun h : b = S => hb (by rw [h]; exact List.mem_cons_self))]; exact e
theorem strs_at : ∀ {us : List Value} {xs : List Str}, StrsAre us xs → ∀ (i : Nat) (v : Value), us[i]? = some v → ∃ k t, xs[i]? = some k ∧ v = .str k t
  | _, _, .nil, i, v, h => by simp at h
  | _, _, .cons y t r, 0, v, h => by simp at h; exact ⟨y, t, rfl, h.symm⟩
  | _, _, .cons y t r, i + 1, v, h => by
    obtain ⟨k, t', h1, h2⟩ := strs_at r i v (by simpa using h)
    exact ⟨k, t', by simpa using h1, h2⟩
theorem StrsAre.len : ∀ {us : List Value} {xs : List Str}, StrsAre us xs → us.length = xs.length
  | _, _, .nil => rfl
  | _, _, .cons y t r => by rw [List.length_cons, List.length_cons, StrsAre.len r]
set_option maxRecDepth 100000 in
set_option maxHeartbeats 3200000 in
theorem call_set_texts {l : Addr} {items : Array Value} (ns : List Str) {Q : Value → Shared → Prop} (hh : A.handled = none) (hl : s.heap.IsList l items) (hit : StrsAre items.toList ns) (hb : ns.length + 1 < scanBound)
    (h : ∀ (h' : Heap) (tk : Nat), TxR w h' s.heap.objs.size ns ns.length → (∀ b o, s.heap.get? b = some o → h'.get? b = some o) → Q (.ref s.heap.objs.size) { s with heap := h', toks := tk }) :
    wpAny (model P w) A (call (.type "set") [.ref l]) Q E s := by
  have hisz : items.size = ns.length := by
    have q := StrsAre.len hit
    rw [Array.length_toList] at q
    exact q
  obtain ⟨c, tl, hmro⟩ := F.called_set.mro
  have hmade := F.called_set.made
  have hsub := F.called_set.sub
  refine wpAny_call (codeAny_of_tree ?_)
  show wpAny _ _ (callAny (.type "set") _) _ _ _
  refine wpAny_pure ⟨Code.quiet_builtin _ (by decide +kernel), codeAny_builtin F.entry_type_call ?_⟩
  rw [Around.under_plain (weight_type_call_type "set" [.ref l] []) rfl]
  have h1 := F.called_set.notType
  have h2 := F.called_set.canCreate
  have hct := F.typeCall_set_1 (.ref l)
  repeat (any_goals (first | assumption | wp_step))
  refine codeAny_mono (code_set_led1 (.ref l) (E := E) (Q₁ := fun obj s₁ => obj = .ref s.heap.objs.size ∧ s₁ = { s with heap := s.heap.push { cls := .type "set", dict := none, data := .set #[] 0 (.fresh 0 0 (!w.params.followText "set-order")) } }) ⟨rfl, rfl⟩) fun r s₁ hr => ?_
  cases r with
  | error e => exact hr
  | ok fl =>
    cases fl with
    | ret obj =>
      obtain ⟨rfl, rfl⟩ := hr
      have hS : (s.heap.push { cls := .type "set", dict := none, data := .set #[] 0 (.fresh 0 0 (!w.params.followText "set-order")) }).get? s.heap.objs.size = some { cls := .type "set", dict := none, data := .set #[] 0 (.fresh 0 0 (!w.params.followText "set-order")) } := Heap.get?_push_size _ rfl
      have hT : Shared.TypeIs { s with heap := s.heap.push { cls := .type "set", dict := none, data := .set #[] 0 (.fresh 0 0 (!w.params.followText "set-order")) } } (.ref s.heap.objs.size) "set" := ⟨_, hS, rfl⟩
      have hli := F.called_set.init.lookup
      have hbi := F.called_set.init.bind (.ref s.heap.objs.size)
      repeat (any_goals (first | assumption | wp_step))
      refine codeAny_mono (codeAny_call_builtin (R := wants (fun r s₂ => r = .none ∧ ∃ h' tk, s₂ = { s with heap := h', toks := tk } ∧ TxR w h' s.heap.objs.size ns ns.length ∧
          (∀ b o, s.heap.get? b = some o → h'.get? b = some o)) E) F.called_set.init.plain F.entry_set_init (check_set_init_1 hT ?_)) fun r₂ s₂ hr₂ => ?_
      · obtain ⟨ol, hol, hcl, ne, hdl⟩ := id hl
        obtain ⟨ocls, odict, odata, oslots⟩ := ol
        simp only at hcl hdl
        subst hcl; subst hdl
        have hol' : (s.heap.push { cls := .type "set", dict := none, data := .set #[] 0 (.fresh 0 0 (!w.params.followText "set-order")) }).get? l = some { cls := .type "list", dict := odict, data := .seq items ne, slots := oslots } := Heap.get?_push_of_some _ hol
        have hsls := F.sub_list_set
        have hslf := F.sub_list_frozenset
        have hne : (Value.type "list" == Value.type "dict") = false := by decide
        have hl1 : (s.heap.push { cls := .type "set", dict := none, data := .set #[] 0 (.fresh 0 0 (!w.params.followText "set-order")) }).IsList l items := hl.push _
        unfold Builtin.«set.__init__» noKeywords Builtin.Frozenset.updateFrom
        generalize hPI : pyIter = PI
        wp_walk
        subst hPI
        refine wpAny_pyIter_list hl1 ?_
        refine wpAny_bind (wpAny_runValue ?_)
        have hlS : l < s.heap.objs.size := Heap.lt_size hol
        have hh3 : A.in1.in1.in1.handled = none := by simp [hh]
        have hneI : l ≠ (s.heap.push { cls := .type "set", dict := none, data := .set #[] 0 (.fresh 0 0 (!w.params.followText "set-order")) }).objs.size := by
          rw [Heap.size_push]; exact Nat.ne_of_lt (Nat.lt_succ_of_lt hlS)
        have hSf : s.heap.objs.size ∉ [(s.heap.push { cls := .type "set", dict := none, data := .set #[] 0 (.fresh 0 0 (!w.params.followText "set-order")) }).objs.size, l] := by
          rw [Heap.size_push]; simp only [List.mem_cons, List.mem_singleton, List.not_mem_nil, or_false, not_or]
          exact ⟨Nat.ne_of_lt (Nat.lt_succ_self _), Nat.ne_of_gt hlS⟩
        have hval : ∀ (i : Nat) (v : Value), items[i]? = some v → ∃ k t, ns[i]? = some k ∧ v = .str k t := fun i v hv => strs_at hit i v (by rw [Array.getElem?_toList]; exact hv)
        refine set_update_texts ((Walks.list hh3 _ l hneI items).toS) s.heap.objs.size
          hSf ns hisz hb hval (items.size - 0) 0 _ (by omega) (Nat.zero_le _)
          ⟨⟨_, Heap.get?_push_size _ rfl, rfl, rfl⟩, (hl1.push _)⟩ ?hS0 ?hR
        case hS0 =>
          exact txR_new (Heap.get?_push_of_some _ hS)
        case hR =>
          intro s' hm hS'
          obtain ⟨h', g2, d', tk', os'⟩ := s'
          have eg : g2 = s.gens := hm.gens
          have ed : d' = s.drawn := hm.drawn
          have eo : os' = s.os := hm.os
          subst eg; subst ed; subst eo
          show wpAny _ _ _ _ _ _
          refine wpAny_pure ?_
          show wpAny _ _ (ret Value.none) _ _ _
          rw [hisz] at hS'
          refine wpAny_pure ⟨rfl, h', tk', rfl, hS', fun b o e => ?_⟩
          have hb0 : b < s.heap.objs.size := Heap.lt_size e
          have hb1 : b ≠ s.heap.objs.size := Nat.ne_of_lt hb0
          have hb2 : b ≠ (s.heap.push { cls := .type "set", dict := none, data := .set #[] 0 (.fresh 0 0 (!w.params.followText "set-order")) }).objs.size := by
            rw [Heap.size_push]; exact Nat.ne_of_lt (Nat.lt_succ_of_lt hb0)
          exact hm.heap b o (by simp only [List.mem_cons, List.mem_singleton, List.not_mem_nil, or_false, not_or]; exact ⟨hb1, hb2⟩) (Heap.get?_push_of_some _ (Heap.get?_push_of_some _ e))
      · cases r₂ with
        | error e => exact hr₂
        | ok fl₂ =>
          cases fl₂ with
          | ret r =>
            obtain ⟨rfl, h', tk, rfl, hS', hk'⟩ := hr₂
            repeat (any_goals (first | assumption | wp_step))
            exact h _ _ hS' hk'
          | _ => exact hr₂.elim
    | _ => exact hr.elim
end
end Rf
end T_RfSet
section T_RfSet2
set_option Elab.async false
set_option linter.all false
set_option maxRecDepth 100000
set_option maxHeartbeats 2000000
/-! Rf: sorted(set(texts)), the rule -/
namespace Rf
open PySem PySem.Spec PyProof.Rows L2
theorem nodup_dups {α : Type} [BEq α] [LawfulBEq α] : ∀ (n : Nat) (l : List α), l.length ≤ n → l.eraseDups.Nodup
  | _, [], _ => by simp
  | 0, _ :: _, h => by simp at h
  | n + 1, a :: l, h => by
    rw [List.eraseDups_cons]
    refine List.nodup_cons.mpr ⟨fun hm => ?_, nodup_dups n _ (Nat.le_trans (List.length_filter_le _ _) (Nat.le_of_succ_le_succ h))⟩
    rw [List.mem_eraseDups, List.mem_filter] at hm
    simp at hm
def strV (v : Value) : Str := match v with | .str x _ => x | _ => Str.empty
theorem strsAre_of : ∀ {vs : List Value}, (∀ v ∈ vs, ∃ x t, v = Value.str x t) → StrsAre vs (vs.map strV)
  | [], _ => .nil
  | v :: vs, h => by
    obtain ⟨x, t, rfl⟩ := h v List.mem_cons_self
    exact .cons x t (strsAre_of fun u hu => h u (List.mem_cons_of_mem _ hu))
section
variable {P : Program} {w : World} {A : Around} {E : Value → Shared → Prop} {s : Shared} {a : Addr} {l : List Str} {n : Nat}
theorem sorted_texts {Q : Value → Shared → Prop} (R : TxR w s.heap a l n) (hh : A.handled = none) (h64 : n < 64)
    (hQ : ∀ s' p (out : Array Value) (c : Nat) (ys : List Str), (∀ b o, s.heap.get? b = some o → s'.heap.get? b = some o) → s'.gens = s.gens → s'.os = s.os → s.heap.objs.size ≤ p →
      s'.heap.get? p = some (seqObj "list" out c) → StrsAre out.toList ys → sortedS ys = true → ys.Nodup → (∀ k, k ∈ ys ↔ k ∈ l) → ys.length ≤ n → Q (.ref p) s') :
    wpAny (model P w) A (call (.builtin "sorted") [.ref a]) Q E s := by
  obtain ⟨o, es, ep, t, ho, hex, hd, g, nd, hm, hb, hf, hn, hr, hl⟩ := R
  refine Calls.call_function_entry kind_sorted plain_sorted entry_sorted (args_sorted1 _) ?_
  unfold Builtin.«sorted»
  refine wpAny_bind (m := checkCount "sorted" 1 1 _) (wpAny_pure ?_)
  refine wpAny_bind (collect_set (A := A.in1) hh ⟨o, ho, hex.1, hd⟩ hf hb hr hl fun s1 vs k1 hz g1 o1 pm => ?_)
  have hvl : vs.length ≤ n := by rw [pm.length_eq, List.length_map, Array.length_toList]; exact hn
  have hI : StrsAre vs (vs.map strV) := strsAre_of fun v hv => by
    obtain ⟨e, he, q⟩ := List.mem_map.mp (pm.mem_iff.mp hv)
    obtain ⟨k, tk, h1, _⟩ := g e he
    exact ⟨k, tk, by rw [← q]; exact h1⟩
  have pk : (vs.map strV).Perm (es.toList.map keyT) := by
    have q := pm.map strV
    rw [List.map_map] at q
    exact q
  refine wpAny_bind (wpAny_newList ?_ (by rw [sizeLine_eq]; omega))
  have hoL : (s1.heap.push (seqObj "list" vs.toArray 0)).get? s1.heap.objs.size = some (seqObj "list" vs.toArray 0) := Heap.get?_push_size _ rfl
  refine wpAny_bind (wpAny_holding (wpAny_call_entry slot_list_sort ⟨_, hoL, rfl⟩ entry_list_sort
    (list_sort_treeK strKind_oneLt hoL hI.keysOf (fun v₁ v₂ rest e => keyKind_strs (by rw [← e]; exact hI)) (by omega) fun st' hp hs => ⟨_, rfl, ?_⟩) (args_list_sort _)))
  obtain ⟨ys, a1, a2, a3⟩ := sorted_out_str hI hp hs
  generalize hout : (arrOf st').map (·.2) = out at a1 ⊢
  obtain ⟨c, hc⟩ := sortedHeap_at (vs := vs) (out := out) hoL
  have pn : ys.Perm (es.toList.map keyT) := a2.trans pk
  refine wpAny_pure ⟨_, rfl, hQ _ s1.heap.objs.size out c ys (fun b u e => ?_) g1 o1 hz hc a1 a3 (pn.nodup_iff.mpr nd) (fun k => by rw [pn.mem_iff, ← hm k]) ?_⟩
  · have q := k1 b u e
    have hlt := Heap.lt_size q
    show (sortedHeap (s1.heap.push (seqObj "list" vs.toArray 0)) s1.heap.objs.size vs out).get? b = some u
    rw [sortedHeap_old (Nat.ne_of_lt hlt) (by rw [size_push']; exact Nat.lt_succ_of_lt hlt)]
    exact Heap.get?_push_of_some _ q
  · rw [pn.length_eq, List.length_map, Array.length_toList]; exact hn
end
def TxO (w : World) (a : Addr) (l : List Str) (n : Nat) : HO := .ext fun h => TxR w h a l n
section
variable {X : Cx} {ca : Nat → Addr} {W : WX} {e : Expr} {es : List Expr} {f : Rf.Env → Mem → Res D} {fs : Rf.Env → Mem → Res (List D)} {pos : Pos}
theorem txO_new {w : World} {P : Program} {H : Hp} {h : Heap} {a : Addr} {l : List Str} {n : Nat} (R : TxR w h a l n) : ObjOk P w H h a (TxO w a l n) := by
  have ⟨o, _, _, _, ho, _⟩ := R
  exact ⟨R, ⟨o, ho⟩, fun h1 h2 p k => TxR.at p k⟩
def rSetT (K : PySem.W.Frag) (w : World) : List V → Hp → VK → Prop := fun xs H Q => ∃ (a : Addr) (l : List Str), xs = [.ref a] ∧ SqL K H a (l.map V.str) ∧ l.length < 64 ∧ ∀ p, H p = none → Q (.ref p) (upd H p (TxO w p l l.length))
theorem cr_setT (hc : X.calm = true) : CallR X (.type "set") (rSetT X.K X.w) := by
  intro pins s σ H xs us Q I r h
  obtain ⟨a, l, rfl, hs, hl, q⟩ := h
  obtain ⟨its, rv, hit, _⟩ := I.list hs
  rw [Vals.ref1 r]
  refine call_set_texts l (I.ok.hd hc) hit.isList rv.strs (by show l.length + 1 < 4096; omega) fun h' tk R k => ?_
  have hn : H s.heap.objs.size = none := I.hok.fresh (Nat.le_refl _)
  exact ⟨.ref _, upd H s.heap.objs.size (TxO X.w s.heap.objs.size l l.length), I.laid (t' := tk) k (Nat.le_refl _) (txO_new R), rfl, q _ hn⟩
def rSortT (w : World) : List V → Hp → VK → Prop := fun vs H Q => ∃ (a : Addr) (l : List Str) (n : Nat), vs = [V.ref a] ∧ H a = some (TxO w a l n) ∧ n < 64 ∧
  ∀ (ys : List Str) (p : Addr), sortedS ys = true → ys.Nodup → (∀ k, k ∈ ys ↔ k ∈ l) → H p = none → Q (.ref p) (upd H p (.lst (ys.map V.str)))
theorem cr_sortT (hc : X.calm = true) : CallR X (.builtin "sorted") (rSortT X.w) := by
  intro pins s σ H vs us Q I r h
  obtain ⟨a, l, n, rfl, ha, h64, q⟩ := h
  have R : TxR X.w s.heap a l n := (I.hok a _ ha).1
  rw [Vals.ref1 r]
  refine sorted_texts R (I.ok.hd hc) h64 fun s' p out c ys k g o hp hg hi hs hnd hm hl => ?_
  have hlen : (ys.map V.str).length ≤ sizeLine := by rw [List.length_map, sizeLine_eq]; omega
  have hn : H p = none := I.hok.fresh hp
  have J : Inv X pins σ (upd H p (.lst (ys.map V.str))) { s with heap := s'.heap, gens := s'.gens, drawn := s'.drawn, toks := s'.toks } :=
    I.call (ch := []) (Un.laid k hp hn) (I.hok.laid k hp ⟨hlen, out.toList, c, vals_of_strs hi, hg⟩) (by rw [g]; exact I.bare) (fun _ z => nomatch z)
  have e : s' = { s with heap := s'.heap, gens := s'.gens, drawn := s'.drawn, toks := s'.toks } := by
    cases s'
    cases s
    cases o
    rfl
  rw [e]
  exact ⟨.ref p, _, J, rfl, q ys p hs hnd hm hn⟩
/-- sorted(set(e)) -/
theorem e_sortSet {p1 p2 pos2 : Pos} (hc : X.calm = true) (hg : Gl X "sorted") (hm : X.mg "sorted" = none) (hg2 : Gl X "set") (hm2 : X.mg "set" = none) (ha : PE X e (tE X.K ca W f)) (hs : isStar e = false) :
    PE X (.Call (.Name "sorted" p1) [.Call (.Name "set" p2) [e] [] pos2] [] pos) (tE X.K ca W fun env M => ((f env M).bind fun x M => (ok [] M).bind fun xs M => ok (x :: xs) M).bind fun xs M => lift (eBi M .sortSet xs) M) := by
  have hset := pe_callTy (pos := pos2) (p := p2) (cr_setT hc) hg2 hm2 (by decide +kernel) (pa_cons ha pa_nil (star_cons hs)) (by decide) (by decide) (star_cons hs) rfl
  refine pe_imp (pe_callB (pos := pos) (p := p1) (cr_sortT hc) hg hm (by decide +kernel) (pa_cons hset pa_nil rfl) (by decide) (by decide) rfl rfl) fun σ H Q ⟨p, F, env, M, rm, re, q⟩ => ?_
  have q : At X.K ca W σ (Rel X.K) p F H (((f env M).bind fun x M => (ok [] M).bind fun xs M => ok (x :: xs) M).bind fun xs M => lift (eBi M .sortSet xs) M) Q := q
  have q' : At X.K ca W σ (Rel X.K) p F H ((f env M).bind fun x M => lift (bSortSet [x]) M) Q := by
    cases z : f env M with
    | none => rw [z] at q; obtain ⟨r, e, _⟩ := q; cases e
    | some r =>
      rw [z] at q
      cases r <;> exact q
  refine ⟨p, F, env, M, rm, re, q'.bind.imp fun x H1 ⟨p1, F1, M1, d, s1, rm1, r1, q1⟩ => ?_⟩
  obtain ⟨r, e1, q4⟩ := q1.lift_
  have e1 : bSortSet [d] = some r := e1
  cases r1 with
  | @lst a vs ds h1 s2 =>
    have e1 : (match strsOf ds with
      | some l => if l.length < 64 then some (D.lst ((sortS l.eraseDups).map .str)) else none
      | none => none) = some r := e1
    split at e1
    · rename_i l hl
      split at e1
      · rename_i h64
        cases e1
        have e2 := strs_of _ _ _ s2 hl
        subst e2
        refine ⟨a, l, rfl, .inl (.inl (rm1.fro _ _ h1)), h64, fun z hz => ?_⟩
        refine ⟨z, l, l.length, rfl, upd_same, h64, fun ys z2 g1 g2 g3 hz2 => ?_⟩
        have hp : ∀ n, p1 n ≠ some z := fun n e => rm1.liv n z e hz
        have st := step_out (o := TxO X.w z l l.length) (Step.refl p1 F1 H1) hz
        have rm2 := rm_out (o := TxO X.w z l l.length) rm1 (rm1.free hz) hp
        have ey : ys = sortS l.eraseDups := by
          refine sortS_of ?_ g1
          exact (List.perm_ext_iff_of_nodup g2 (nodup_dups _ _ (Nat.le_refl _))).mpr fun k => by rw [g3 k, List.mem_eraseDups]
        subst ey
        exact new_lst rm2 hz2 (Rels.strs _) fun p' F' H' v st2 rm' rl => q4 p' F' H' v (st.trans st2) rm' rl
      · cases e1
    · cases e1
  | _ => cases e1
end
end Rf
end T_RfSet2
section T_RfChk
set_option Elab.async false
set_option linter.all false
set_option maxRecDepth 100000
set_option maxHeartbeats 1000000
/-! Rf: the checker (a program's text against its core) and what it promises: expressions -/
namespace Rf
open PySem PySem.Spec PyProof.Rows L2
/-- a def: its name, its text, its parameters, its slots, its core; binds: how many arguments a call writes, what is added -/
structure CF where
  name : Str
  params : Arguments
  stmts : List Stmt
  scope : Scope
  ps : List Str
  N : List Str
  core : List CS
  binds : List (Nat × List D)
  dfl : List D := []
structure Gi where
  fns : List CF
  txts : List (Str × Str)
  nums : List (Str × Int)
  tups : List (Str × D)
  excs : List Str
  frees : List Str
def CF.fd (c : CF) : Fd := ⟨c.ps.length, c.N.length, c.core⟩
def Gi.tab (g : Gi) : Tab := fun f => (g.fns[f]?).map CF.fd
def visB (sc : Scope) (x : Str) : Bool := match sc.names.lookup x with
  | some .local => true
  | some .cell => true
  | some .free => true
  | _ => false
theorem vis_of {sc : Scope} {x : Str} (h : visB sc x = true) : Vis sc x := by
  unfold visB at h
  unfold Vis
  split at h <;> simp_all
def glB (sc : Scope) (x : Str) : Bool := decide (sc.names.lookup x = some .globalImplicit)
def plainN (x : Str) : Bool := !(x == ("__debug__" : Str)) && !(x == ("__classdict__" : Str))
def notName (x : Str) : Bool := !decide (x = "__name__")
def ndb (x : Str) : Bool := !(x == ("__debug__" : Str))
/-- a constant -/
def conB (g : Gi) (sc : Scope) (d : D) : Expr → Bool
  | .Constant .none _ _ => match d with | .non => true | _ => false
  | .Constant (.bool b) _ _ => match d with | .bl c => decide (b = c) | _ => false
  | .Constant (.int i) _ _ => match d with | .int j => decide (i = j) | _ => false
  | .Constant (.str s) _ _ => match d with | .str z => decide (s = z) | _ => false
  | .Name x _ => glB sc x && ndb x && (match d with
    | .int i => decide ((x, i) ∈ g.nums)
    | .str s => decide ((x, s) ∈ g.txts)
    | .tup ds => g.tups.any fun p => decide (p.1 = x) && sameD p.2 (.tup ds)
    | _ => false)
  | _ => false
def biStr : Bi → Option Str
  | .abs => some "abs"
  | .all => some "all"
  | .any => some "any"
  | .bool => some "bool"
  | .int => some "int"
  | .len => some "len"
  | .list => some "list"
  | .tuple => some "tuple"
  | .max2 => some "max"
  | .min2 => some "min"
  | .sortStr => some "sorted"
  | _ => none
def locB (sc : Scope) (x : Str) : Bool := match sc.names.lookup x with
  | some .local => true
  | some .cell => true
  | _ => false
mutual
def chkTg (N : List Str) (sc : Scope) : Tg → Expr → Bool
  | .nm i, e => match e with
    | .Name x _ => decide (N[i]? = some x) && locB sc x
    | _ => false
  | .tp ts, e => match e with
    | .Tuple es _ _ => decide (es.length = ts.len) && chkTgs N sc ts es
    | _ => false
def chkTgs (N : List Str) (sc : Scope) : TgL → List Expr → Bool
  | .nil, es => es.isEmpty
  | .cons t ts, es => match es with
    | e :: es => !isStarT e && chkTg N sc t e && chkTgs N sc ts es
    | [] => false
end
def isTupE : Expr → Bool
  | .Tuple _ _ _ => true
  | _ => false
/-- the block's own names and slots -/
def ownOf (N : List Str) (slots : List Nat) : List (Str × Nat) := slots.map fun i => (N.getD i "", i)
def isNilC : CEs → Bool
  | .nil => true
  | _ => false
mutual
def chkE (g : Gi) (N : List Str) : CE → Scope → Expr → Bool
  | .var i, sc, e => match e with
    | .Name x _ => decide (N[i]? = some x) && (visB sc x && plainN x)
    | _ => false
  | .con d, sc, e => conB g sc d e
  | .bin op a b, sc, e => match e with
    | .BinOp ea o eb _ => decide (o = pyOp op) && (chkE g N a sc ea && chkE g N b sc eb)
    | _ => false
  | .neg a, sc, e => match e with
    | .UnaryOp .USub ea _ => chkE g N a sc ea
    | _ => false
  | .cmp op a b, sc, e => match e with
    | .Compare ea [o] [eb] _ => decide (o = pyCo op) && (!behindInMarks (pyCo op) eb && (chkE g N a sc ea && chkE g N b sc eb))
    | _ => false
  | .isN a, sc, e => match e with
    | .Compare ea [.Is] [.Constant .none _ _] _ => chkE g N a sc ea
    | _ => false
  | .notN a, sc, e => match e with
    | .Compare ea [.IsNot] [.Constant .none _ _] _ => chkE g N a sc ea
    | _ => false
  | .chain p q a b c, sc, e => match e with
    | .Compare ea [o1, o2] [eb, ec] _ => decide (o1 = pyCo p) && (decide (o2 = pyCo q) && (!lastMarks [pyCo p, pyCo q] [eb, ec] && (chkE g N a sc ea && (chkE g N b sc eb && chkE g N c sc ec))))
    | _ => false
  | .and a b, sc, e => match e with
    | .BoolOp .And (ea :: eb :: rest) pos => chkE g N a sc ea && chkE g N b sc (if rest.isEmpty then eb else .BoolOp .And (eb :: rest) pos)
    | _ => false
  | .or a b, sc, e => match e with
    | .BoolOp .Or (ea :: eb :: rest) pos => chkE g N a sc ea && chkE g N b sc (if rest.isEmpty then eb else .BoolOp .Or (eb :: rest) pos)
    | _ => false
  | .not a, sc, e => match e with
    | .UnaryOp .Not ea _ => chkE g N a sc ea
    | _ => false
  | .notV a, sc, e => match e with
    | .UnaryOp .Not (.Name x p) _ => chkE g N a sc (.Name x p)
    | _ => false
  | .ite c a b, sc, e => match e with
    | .IfExp ec ea eb _ => chkE g N c sc ec && (chkE g N a sc ea && chkE g N b sc eb)
    | _ => false
  | .tup es, sc, e => match e with
    | .Tuple ees _ _ => noStars ees && chkEs g N es sc ees
    | _ => false
  | .lst es, sc, e => match e with
    | .List ees _ => noStars ees && chkEs g N es sc ees
    | _ => false
  | .lstM es, sc, e => match e with
    | .List ees _ => noStars ees && chkEs g N es sc ees
    | _ => false
  | .dicM ks es, sc, e => match e with
    | .Dict kes ees _ => !kes.isEmpty && (decide (kes.length ≤ 15) && chkD g N es ks sc kes ees)
    | _ => false
  | .idx a i, sc, e => match e with
    | .Subscript ea ei _ => !isSlice ei && (chkE g N a sc ea && chkE g N i sc ei)
    | _ => false
  | .idxD a i, sc, e => match e with
    | .Subscript ea ei _ => !isSlice ei && (chkE g N a sc ea && chkE g N i sc ei)
    | _ => false
  | .inD k a, sc, e => match e with
    | .Compare ek [.In] [ea] _ => !behindInMarks .In ea && (chkE g N k sc ek && chkE g N a sc ea)
    | _ => false
  | .ninD k a, sc, e => match e with
    | .Compare ek [.NotIn] [ea] _ => !behindInMarks .NotIn ea && (chkE g N k sc ek && chkE g N a sc ea)
    | _ => false
  | .slc a lo hi, sc, e => match e with
    | .Subscript ea (.Slice l h none _) _ => chkE g N a sc ea && (chkO g N lo sc l && chkO g N hi sc h)
    | _ => false
  | .rev a, sc, e => match e with
    | .Subscript ea (.Slice none none (some (.UnaryOp .USub (.Constant (.int 1) _ _) _)) _) _ => chkE g N a sc ea
    | _ => false
  | .call f es more, sc, e => match e with
    | .Call (.Name x _) ees [] _ => glB sc x && (ndb x && (noStars ees && (chkEs g N es sc ees && (match g.fns[f]? with
      | some cf => decide (cf.name = x) && cf.binds.any fun b => decide (b.1 = ees.length) && sameDs b.2 more
      | none => false))))
    | _ => false
  | .bi b es, sc, e => match e with
    | .Call (.Name x _) ees [] _ =>
      if decide (b = .sortSet) then (match ees with
        | [.Call (.Name y _) [ea] [] _] => decide (x = "sorted") && (decide (y = "set") && (glB sc x && (glB sc y && (decide (x ∈ g.frees) && (decide (y ∈ g.frees) && (!isStar ea && chkEs g N es sc [ea]))))))
        | _ => false)
      else !ees.isEmpty && (noStars ees && (glB sc x && (decide (biStr b = some x) && (decide (x ∈ g.frees) && chkEs g N es sc ees))))
    | _ => false
  | .me b a es, sc, e => match e with
    | .Call (.Attribute ea m apos) [] [] cpos => plainRecv ea && ((apos.endLine == cpos.line) && (decide (b = .upper) && (decide (m = "upper") && (isNilC es && chkE g N a sc ea))))
    | .Call (.Attribute ea m apos) [e1] [] cpos => plainRecv ea && ((apos.endLine == cpos.line) && (!isStar e1 && ((decide (b = .count) && decide (m = "count") || (decide (b = .join) && decide (m = "join") || decide (b = .split) && decide (m = "split"))) && (chkE g N a sc ea && chkEs g N es sc [e1]))))
    | .Call (.Attribute ea m apos) [e1, e2] [] cpos => plainRecv ea && ((apos.endLine == cpos.line) && (!isStar e1 && (!isStar e2 && (decide (b = .get2) && (decide (m = "get") && (chkE g N a sc ea && chkEs g N es sc [e1, e2]))))))
    | _ => false
  | .rngL a, sc, e => match e with
    | .Call (.Name x _) [.Call (.Name y _) [ea] [] _] [] _ => decide (x = "list") && (decide (y = "range") && (glB sc x && (glB sc y && (decide (x ∈ g.frees) && (decide (y ∈ g.frees) && (!isStar ea && chkE g N a sc ea))))))
    | _ => false
  | .rngL2 a b, sc, e => match e with
    | .Call (.Name x _) [.Call (.Name y _) [ea, eb] [] _] [] _ => decide (x = "list") && (decide (y = "range") && (glB sc x && (glB sc y && (decide (x ∈ g.frees) && (decide (y ∈ g.frees) && (!isStar ea && (!isStar eb && (chkE g N a sc ea && chkE g N b sc eb))))))))
    | _ => false
  | .isi a t, sc, e => match e with
    | .Call (.Name x _) [ea, .Name y _] [] _ => decide (x = "isinstance") && (decide (y = tyStr t) && (glB sc x && (glB sc y && (decide (x ∈ g.frees) && (decide (y ∈ g.frees) && (!isStar ea && chkE g N a sc ea))))))
    | _ => false
  | .lc el tg it, sc, e => match e with
    | .ListComp ee [⟨tgE, iter, [], 0⟩] scope _ => blkC N sc scope (ownOf N tg.slots) && (chkTg N scope tg tgE && (chkI g N it sc tgE iter && (!isSetE iter && chkE g N el scope ee)))
    | _ => false
  | .lcIf el tg it c, sc, e => match e with
    | .ListComp ee [⟨tgE, iter, [ec], 0⟩] scope _ => blkC N sc scope (ownOf N tg.slots) && (chkTg N scope tg tgE && (chkI g N it sc tgE iter && (!isSetE iter && (chkE g N el scope ee && chkE g N c scope ec))))
    | _ => false
  | .dcIfM k el tg it c, sc, e => false
  | .fmt a, sc, e => match e with
    | .FormattedValue ea c sp _ => decide (c = -1) && (sp.isNone && chkE g N a sc ea)
    | _ => false
  | .fstr es, sc, e => match e with
    | .JoinedStr ees _ => decide (2 ≤ ees.length) && chkEs g N es sc ees
    | _ => false
  | .addM a b, sc, e => match e with
    | .BinOp ea o eb _ => decide (o = .Add) && (chkE g N a sc ea && chkE g N b sc eb)
    | _ => false
def chkD (g : Gi) (N : List Str) : CEs → List Key → Scope → List (Option Expr) → List Expr → Bool
  | .nil, ks, sc, kes, es => ks.isEmpty && (kes.isEmpty && es.isEmpty)
  | .cons a as, ks, sc, kes, es => match ks, kes, es with
    | k :: ks, some ke :: kes, e :: es => keyE k ke && (chkE g N a sc e && chkD g N as ks sc kes es)
    | _, _, _ => false
def chkEs (g : Gi) (N : List Str) : CEs → Scope → List Expr → Bool
  | .nil, sc, es => es.isEmpty
  | .cons a as, sc, es => match es with
    | e :: es => chkE g N a sc e && chkEs g N as sc es
    | [] => false
def chkO (g : Gi) (N : List Str) : CO → Scope → Option Expr → Bool
  | .no, sc, o => o.isNone
  | .at a, sc, o => match o with
    | some e => chkE g N a sc e
    | none => false
def chkI (g : Gi) (N : List Str) : CI → Scope → Expr → Expr → Bool
  | .seq a, sc, tgE, e => chkE g N a sc e
  | .rng a, sc, tgE, e => match e with
    | .Call (.Name x _) [ea] [] _ => decide (x = "range") && (glB sc x && (decide (x ∈ g.frees) && (!isStar ea && chkE g N a sc ea)))
    | _ => false
  | .rng2 a b, sc, tgE, e => match e with
    | .Call (.Name x _) [ea, eb] [] _ => decide (x = "range") && (glB sc x && (decide (x ∈ g.frees) && (!isStar ea && (!isStar eb && (chkE g N a sc ea && chkE g N b sc eb)))))
    | _ => false
  | .enum a, sc, tgE, e => match e with
    | .Call (.Name x _) [ea] [] _ => isTupE tgE && (decide (x = "enumerate") && (glB sc x && (decide (x ∈ g.frees) && (!isStar ea && chkE g N a sc ea))))
    | _ => false
  | .zip a b, sc, tgE, e => match e with
    | .Call (.Name x _) [ea, eb] [] _ => isTupE tgE && (decide (x = "zip") && (glB sc x && (decide (x ∈ g.frees) && (!isStar ea && (!isStar eb && (chkE g N a sc ea && chkE g N b sc eb))))))
    | _ => false
  | .keys i, sc, tgE, e => false
end
end Rf
end T_RfChk
section T_RfSnd
set_option Elab.async false
set_option linter.all false
set_option maxRecDepth 100000
set_option maxHeartbeats 1000000
/-! Rf: what the checker has passed does as its core says: expressions -/
namespace Rf
open PySem PySem.Spec PyProof.Rows L2
def dvV : D → V
  | .bl b => .bl b
  | .int i => .int i
  | .str s => .str s
  | _ => .non
/-- what stands behind the module's top -/
structure Facts (g : Gi) (ca : Nat → Addr) (n : Nat) (P : Program) (w : World) (K : PySem.W.Frag) (mg : Str → Option Value) (base : Heap) : Prop where
  free : ∀ x ∈ g.frees, mg x = none
  txt : ∀ p ∈ g.txts, ∃ u, mg p.1 = some u ∧ RelV (.str p.2) u
  num : ∀ p ∈ g.nums, ∃ u, mg p.1 = some u ∧ RelV (.int p.2) u
  tup : ∀ p ∈ g.tups, ∃ v u, mg p.1 = some u ∧ RelV v u ∧ ∀ ph F, Rel K ph F v p.2
  exc : ∀ k x, g.excs[k]? = some x → mg x = some (.ref (ca k)) ∧ PySem.W.keepIn K (.ref (ca k)) = true ∧ PySem.W.excIn K (ca k) [.type "ValueError", .type "Exception", .type "BaseException", .type "object"] "ValueError.__new__" = true ∧
    PySem.W.subIn K (.ref (ca k)) (.type "BaseException") = some true ∧ PySem.W.typeIn K (.ref (ca k)) = some (.type "type")
  fn : ∀ (f : Nat) (cf : CF), g.fns[f]? = some cf → ∃ (adr : Addr) (fd : FuncData), FnOk P w K mg base (L2.CX P w) n adr fd cf.ps (spF K ca (callN g.tab n) f) ∧ mg cf.name = some (.ref adr) ∧ PySem.W.keepIn K (.ref adr) = true ∧
    FunD K cf.name cf.name cf.params cf.stmts cf.scope (cf.dfl.map dvV) [] adr fd ∧ ∀ b ∈ cf.binds, ∃ dvs ds, Vals dvs ds ∧ Binds K fd cf.ps ds ∧ ∀ p F, Rels K p F dvs b.2
structure Good (g : Gi) (ca : Nat → Addr) (n : Nat) (N : List Str) (sc : Scope) (W : WX) (X : Cx) : Prop where
  hN : X.N = N
  nd : N.Nodup
  keep : ∀ x k, k ≠ .free → sc.names.lookup x = some k → X.env.scope.names.lookup x = some k
  fre : ∀ x, sc.names.lookup x = some .free → X.env.scope.names.lookup x = some .free ∨ X.env.scope.names.lookup x = some .cell
  ekind : X.env.scope.kind = .function
  calm : X.calm = true
  room : Room n X.A
  tk : Takes X W
  facts : Facts g ca n X.prog X.w X.K X.mg X.base
  kind : sc.kind = .function
  fnc : ∀ x, sc.names.lookup x = some .cell → X.fn x = true
theorem Good.un {g : Gi} {ca : Nat → Addr} {n : Nat} {N : List Str} {sc : Scope} {W : WX} {X : Cx} (G : Good g ca n N sc W X) : X.A.units + 65 < cLine := by
  have := G.room.un
  omega
theorem Good.un1 {g : Gi} {ca : Nat → Addr} {n : Nat} {N : List Str} {sc : Scope} {W : WX} {X : Cx} (G : Good g ca n N sc W X) : X.A.units + 1 < cLine := by
  have := G.room.un
  omega
theorem Good.gl {g : Gi} {ca : Nat → Addr} {n : Nat} {N : List Str} {sc : Scope} {W : WX} {X : Cx} (G : Good g ca n N sc W X) {x : Str} (h : glB sc x = true) : Gl X x := by
  have h := of_decide_eq_true h
  exact G.keep x _ (by decide) h
theorem Good.vis {g : Gi} {ca : Nat → Addr} {n : Nat} {N : List Str} {sc : Scope} {W : WX} {X : Cx} (G : Good g ca n N sc W X) {x : Str} (h : visB sc x = true) : Vis X.env.scope x := by
  rcases vis_of h with h | h | h
  · exact .inl (G.keep x _ (by decide) h)
  · exact .inr (.inl (G.keep x _ (by decide) h))
  · rcases G.fre x h with h | h
    · exact .inr (.inr h)
    · exact .inr (.inl h)
theorem Good.blkOk {g : Gi} {ca : Nat → Addr} {n : Nat} {N : List Str} {sc scope : Scope} {W : WX} {X : Cx} {own : List (Str × Nat)} (G : Good g ca n N sc W X) (ok : BlkOk N sc scope own) : BlkOk N X.env.scope scope own :=
  ⟨ok.kind, ok.uniq, ok.ix, fun y hy e => by
    rcases ok.free y hy e with h | h
    · exact .inl (G.keep _ _ (by decide) h)
    · rcases G.fre _ h with h | h
      · exact .inr h
      · exact .inl h, ok.own⟩
theorem rel_free {sc : Scope} : ∀ {names : List (Str × NameKind)} {x : Str}, names.lookup x = some .free →
    (names.map fun (n, k) => if (k == NameKind.free && sc.kind == .function && sc.names.lookup n == some .cell) then (n, NameKind.cell) else (n, k)).lookup x = some .free ∨
    (names.map fun (n, k) => if (k == NameKind.free && sc.kind == .function && sc.names.lookup n == some .cell) then (n, NameKind.cell) else (n, k)).lookup x = some .cell
  | [], _, h => by simp at h
  | (n, k) :: r, x, h => by
    have ih := @rel_free sc r x
    show List.lookup x ((if (k == NameKind.free && sc.kind == .function && sc.names.lookup n == some .cell) = true then (n, NameKind.cell) else (n, k)) :: (r.map _)) = some .free ∨ List.lookup x ((if (k == NameKind.free && sc.kind == .function && sc.names.lookup n == some .cell) = true then (n, NameKind.cell) else (n, k)) :: (r.map _)) = some .cell
    cases hx : x == n with
    | true =>
      simp only [List.lookup_cons, hx] at h
      cases h
      split <;> simp [List.lookup_cons, hx]
    | false =>
      simp only [List.lookup_cons, hx] at h
      split <;> simpa only [List.lookup_cons, hx] using ih h
/-- in a comprehension's block -/
theorem Good.blk {g : Gi} {ca : Nat → Addr} {n : Nat} {N : List Str} {sc scope : Scope} {W : WX} {X : Cx} (G : Good g ca n N sc W X) (hk : scope.kind = .function) (s : Shared) (H : Hp) (C : Addr) (cl : List (Str × Addr)) (fp : List Addr) :
    Good g ca n N scope WF (X.blk s H scope (compEnvC scope cl C X.env) fp) where
  hN := G.hN
  nd := G.nd
  keep := fun x k hk' h => lookup_relS_keep hk' h
  fre := fun x h => rel_free h
  ekind := hk
  calm := G.calm
  room := G.room
  tk := takes0
  facts := G.facts
  kind := hk
  fnc := fun x h => by
    show (scope.names.lookup x == some .cell) = true
    rw [h]; rfl
structure Out (X : Cx) (ca : Nat → Addr) (W : WX) (cl : Calls) (e : Expr) (ce : CE) : Prop where
  pe : PE X e (tE X.K ca W (ev cl ce))
  pt : PT X e (tT X.K ca W (ev cl ce))
  pw : ∀ op vs pos, e = .BoolOp op vs pos → PW X e (tT X.K ca W (ev cl ce))
/-- an expression that is tested by its value -/
def plainT : Expr → Bool
  | .BoolOp _ _ _ => false
  | .UnaryOp .Not _ _ => false
  | .IfExp _ _ _ _ => false
  | .Compare _ _ _ _ => false
  | _ => true
theorem plainT_ok {e : Expr} {env : PySem.Env} (h : plainT e = true) : ∀ whole, isTrue e env whole = (do let v ← whole; standAt e.pos; holding [v] (truthy v)) := by
  intro whole
  cases e <;> first | rfl | (cases h; done) | skip
  rename_i op a pos
  cases op <;> first | rfl | (cases h)
section
variable {g : Gi} {ca : Nat → Addr} {n : Nat} {N : List Str} {sc : Scope} {W : WX} {X : Cx} {cl : Calls} {e : Expr}
theorem out_val {ce : CE} (h : PE X e (tE X.K ca W (ev cl ce))) (hp : plainT e = true) : Out X ca W cl e ce :=
  ⟨h, t_val h (plainT_ok hp), fun op vs pos q => by subst q; cases hp⟩
theorem out_cmp {ce : CE} (h : PE X e (tE X.K ca W (ev cl ce))) (h2 : PT X e (tT X.K ca W (ev cl ce))) (hp : ∀ op vs pos, e ≠ .BoolOp op vs pos) : Out X ca W cl e ce :=
  ⟨h, h2, fun op vs pos q => absurd q (hp op vs pos)⟩
theorem and2 {a b : Bool} (h : (a && b) = true) : a = true ∧ b = true := by simpa using h
theorem not1 {a : Bool} (h : (!a) = true) : a = false := by simpa using h
/-- the hypothesis of a part -/
abbrev IHE (g : Gi) (ca : Nat → Addr) (n : Nat) (N : List Str) (ce : CE) : Prop := ∀ (sc : Scope) (W : WX) (X : Cx) (e : Expr), Good g ca n N sc W X → chkE g N ce sc e = true → Out X ca W (callN g.tab n) e ce
abbrev IHEs (g : Gi) (ca : Nat → Addr) (n : Nat) (N : List Str) (ces : CEs) : Prop := ∀ (sc : Scope) (W : WX) (X : Cx) (es : List Expr), Good g ca n N sc W X → noStars es = true → chkEs g N ces sc es = true → PA X es (tEs X.K ca W (evs (callN g.tab n) ces))
abbrev IHO (g : Gi) (ca : Nat → Addr) (n : Nat) (N : List Str) (o : CO) : Prop := ∀ (sc : Scope) (W : WX) (X : Cx) (e : Option Expr), Good g ca n N sc W X → chkO g N o sc e = true → PO X e (tO X.K ca W (evO (callN g.tab n) o))
abbrev IHI (g : Gi) (ca : Nat → Addr) (n : Nat) (N : List Str) (it : CI) : Prop := ∀ (sc : Scope) (W : WX) (X : Cx) (tg e : Expr), Good g ca n N sc W X → chkI g N it sc tg e = true → PI X tg e (tI X.K ca W (evI (callN g.tab n) it))
theorem ndb_of {x : Str} (h : ndb x = true) : (x == ("__debug__" : Str)) = false := not1 h
theorem c_var {i : Nat} : IHE g ca n N (.var i) := by
  intro sc W X e G h
  unfold chkE at h
  cases e <;> first | (cases h; done) | skip
  obtain ⟨h1, h2⟩ := and2 h
  obtain ⟨h3, h4⟩ := and2 h2
  obtain ⟨h5, h6⟩ := and2 h4
  exact out_val (e_var (by rw [G.hN]; exact of_decide_eq_true h1) (G.vis h3) (not1 h5) (not1 h6)) rfl
theorem c_con {d : D} : IHE g ca n N (.con d) := by
  intro sc W X e G h
  unfold chkE at h
  cases e <;> first | (cases h; done) | skip
  · rename_i c j pos
    cases c <;> first | (cases h; done) | skip
    · cases d <;> first | (cases h; done) | skip
      exact out_val (e_con pe_non fun _ _ => .non) rfl
    · cases d <;> first | (cases h; done) | skip
      cases (of_decide_eq_true h : _ = _)
      rename_i b
      exact out_val (e_con pe_bl fun _ _ => .bl _) rfl
    · cases d <;> first | (cases h; done) | skip
      cases (of_decide_eq_true h : _ = _)
      rename_i b
      exact out_val (e_con pe_int fun _ _ => .int _) rfl
    · cases d <;> first | (cases h; done) | skip
      cases (of_decide_eq_true h : _ = _)
      rename_i b
      exact out_val (e_con pe_str fun _ _ => .str _) rfl
  · obtain ⟨h1, h2⟩ := and2 h
    obtain ⟨h3, h4⟩ := and2 h1
    cases d <;> first | (cases h2; done) | skip
    · obtain ⟨u, q1, q2⟩ := G.facts.num _ (of_decide_eq_true h2)
      exact out_val (e_con (pe_glob (G.gl h3) q1 q2 (ndb_of h4)) fun _ _ => .int _) rfl
    · obtain ⟨u, q1, q2⟩ := G.facts.txt _ (of_decide_eq_true h2)
      exact out_val (e_con (pe_glob (G.gl h3) q1 q2 (ndb_of h4)) fun _ _ => .str _) rfl
    · obtain ⟨p, hp, hq⟩ := List.any_eq_true.mp h2
      obtain ⟨h5, h6⟩ := and2 hq
      obtain ⟨v, u, q1, q2, q3⟩ := G.facts.tup _ hp
      rw [of_decide_eq_true h5] at q1
      rw [sameD_ok h6] at q3
      exact out_val (e_con (pe_glob (G.gl h3) q1 q2 (ndb_of h4)) q3) rfl
theorem c_bin {op : Op} {a b : CE} (ha : IHE g ca n N a) (hb : IHE g ca n N b) : IHE g ca n N (.bin op a b) := by
  intro sc W X e G h
  unfold chkE at h
  cases e <;> first | (cases h; done) | skip
  obtain ⟨h1, h2⟩ := and2 h
  obtain ⟨h3, h4⟩ := and2 h2
  cases (of_decide_eq_true h1)
  exact out_val (e_op op (ha sc W X _ G h3).pe (hb sc W X _ G h4).pe) rfl
theorem c_neg {a : CE} (ha : IHE g ca n N a) : IHE g ca n N (.neg a) := by
  intro sc W X e G h
  unfold chkE at h
  split at h
  · exact out_val (e_neg (ha sc W X _ G h).pe) rfl
  · cases h
theorem c_cmp {op : Co} {a b : CE} (ha : IHE g ca n N a) (hb : IHE g ca n N b) : IHE g ca n N (.cmp op a b) := by
  intro sc W X e G h
  unfold chkE at h
  split at h
  · obtain ⟨h1, h2⟩ := and2 h
    obtain ⟨h0, h2⟩ := and2 h2
    obtain ⟨h3, h4⟩ := and2 h2
    cases (of_decide_eq_true h1)
    exact out_cmp (e_cmp op G.un (ha sc W X _ G h3).pe (hb sc W X _ G h4).pe (not1 h0)) (t_cmp op G.un (ha sc W X _ G h3).pe (hb sc W X _ G h4).pe (not1 h0)) (fun _ _ _ => by intro z; cases z)
  · cases h
theorem c_isN {a : CE} (ha : IHE g ca n N a) : IHE g ca n N (.isN a) := by
  intro sc W X e G h
  unfold chkE at h
  split at h
  · exact out_cmp (e_isN (ha sc W X _ G h).pe) (t_isN (ha sc W X _ G h).pe) (fun _ _ _ => by intro z; cases z)
  · cases h
theorem c_notN {a : CE} (ha : IHE g ca n N a) : IHE g ca n N (.notN a) := by
  intro sc W X e G h
  unfold chkE at h
  split at h
  · exact out_cmp (e_notN (ha sc W X _ G h).pe) (t_notN (ha sc W X _ G h).pe) (fun _ _ _ => by intro z; cases z)
  · cases h
theorem c_chain {p q : Co} {a b c : CE} (ha : IHE g ca n N a) (hb : IHE g ca n N b) (hc : IHE g ca n N c) : IHE g ca n N (.chain p q a b c) := by
  intro sc W X e G h
  unfold chkE at h
  split at h
  · obtain ⟨h1, h⟩ := and2 h
    obtain ⟨h2, h⟩ := and2 h
    obtain ⟨h0, h⟩ := and2 h
    obtain ⟨h3, h⟩ := and2 h
    obtain ⟨h4, h5⟩ := and2 h
    cases (of_decide_eq_true h1)
    cases (of_decide_eq_true h2)
    exact out_cmp (e_chain G.un (ha sc W X _ G h3).pe (hb sc W X _ G h4).pe (hc sc W X _ G h5).pe (not1 h0)) (t_chain G.un (ha sc W X _ G h3).pe (hb sc W X _ G h4).pe (hc sc W X _ G h5).pe (not1 h0)) (fun _ _ _ => by intro z; cases z)
  · cases h
theorem c_and {a b : CE} (ha : IHE g ca n N a) (hb : IHE g ca n N b) : IHE g ca n N (.and a b) := by
  intro sc W X e G h
  unfold chkE at h
  split at h
  · rename_i ea eb rest pos
    obtain ⟨h1, h2⟩ := and2 h
    have qa := ha sc W X _ G h1
    cases rest with
    | nil =>
      have qb := hb sc W X eb G h2
      have w := t_and (pos := pos) qa.pt (pw_and1 (pos := pos) qb.pt)
      exact ⟨e_and (pos' := pos) qa.pe (e_one qb.pe), w.pt, fun _ _ _ _ => w⟩
    | cons x r =>
      have qb := hb sc W X _ G h2
      have w := t_and (pos := pos) qa.pt (qb.pw _ _ _ rfl)
      exact ⟨e_and (pos' := pos) qa.pe qb.pe, w.pt, fun _ _ _ _ => w⟩
  · cases h
theorem c_or {a b : CE} (ha : IHE g ca n N a) (hb : IHE g ca n N b) : IHE g ca n N (.or a b) := by
  intro sc W X e G h
  unfold chkE at h
  split at h
  · rename_i ea eb rest pos
    obtain ⟨h1, h2⟩ := and2 h
    have qa := ha sc W X _ G h1
    cases rest with
    | nil =>
      have qb := hb sc W X eb G h2
      have w := t_or (pos := pos) qa.pt (pw_or1 (pos := pos) qb.pt)
      exact ⟨e_or qa.pe (e_one qb.pe), w.pt, fun _ _ _ _ => w⟩
    | cons x r =>
      have qb := hb sc W X _ G h2
      have w := t_or (pos := pos) qa.pt (qb.pw _ _ _ rfl)
      exact ⟨e_or qa.pe qb.pe, w.pt, fun _ _ _ _ => w⟩
  · cases h
theorem c_not {a : CE} (ha : IHE g ca n N a) : IHE g ca n N (.not a) := by
  intro sc W X e G h
  unfold chkE at h
  split at h
  · exact out_cmp (e_not (ha sc W X _ G h).pe) (t_not (ha sc W X _ G h).pt) (fun _ _ _ => by intro z; cases z)
  · cases h
theorem c_notV {a : CE} (ha : IHE g ca n N a) : IHE g ca n N (.notV a) := by
  intro sc W X e G h
  unfold chkE at h
  split at h
  · exact out_cmp (e_notV (ha sc W X _ G h).pe) (t_notV (ha sc W X _ G h).pe (fun _ => rfl)) (fun _ _ _ => by intro z; cases z)
  · cases h
theorem t_ite {ec ea eb : Expr} {pos : Pos} {f1 f2 f3 : Rf.Env → Mem → Res D} (hc : PT X ec (tT X.K ca W f1)) (ha : PT X ea (tT X.K ca W f2)) (hb : PT X eb (tT X.K ca W f3)) :
    PT X (.IfExp ec ea eb pos) (tT X.K ca W fun env M => (asB (f1 env M)).bind fun t M => if t then f2 env M else f3 env M) := by
  refine ⟨fun pins s σ H Q I ⟨p, F, env, M, rm, re, q⟩ => ?_⟩
  show wpAny _ _ (do if ← isTrue ec X.env (eval ec X.env) then isTrue ea X.env (eval ea X.env) else isTrue eb X.env (eval eb X.env)) _ _ s
  have q : At X.K ca W σ eqB p F H (asB ((asB (f1 env M)).bind fun t M => if t then f2 env M else f3 env M)) Q := q
  rw [asB_bind] at q
  refine wpAny_bind (thn (hc.run pins s σ H _ I ⟨p, F, env, M, rm, re, q.bind (rel1 := eqB)⟩) fun t s1 ⟨H1, I1, p1, F1, M1, d, s2, rm1, r1, q1⟩ => ?_)
  have r1 : t = d := r1
  subst r1
  rw [asB_if] at q1
  cases t with
  | true => exact ha.run pins s1 σ H1 Q I1 ⟨p1, F1, env, M1, rm1, re.mono s2.toLe, q1⟩
  | false => exact hb.run pins s1 σ H1 Q I1 ⟨p1, F1, env, M1, rm1, re.mono s2.toLe, q1⟩
theorem c_ite {c a b : CE} (hc : IHE g ca n N c) (ha : IHE g ca n N a) (hb : IHE g ca n N b) : IHE g ca n N (.ite c a b) := by
  intro sc W X e G h
  unfold chkE at h
  split at h
  · obtain ⟨h1, h⟩ := and2 h
    obtain ⟨h2, h3⟩ := and2 h
    exact out_cmp (e_ite (hc sc W X _ G h1).pt (ha sc W X _ G h2).pe (hb sc W X _ G h3).pe) (t_ite (hc sc W X _ G h1).pt (ha sc W X _ G h2).pt (hb sc W X _ G h3).pt) (fun _ _ _ => by intro z; cases z)
  · cases h
theorem c_tup {es : CEs} (hs : IHEs g ca n N es) : IHE g ca n N (.tup es) := by
  intro sc W X e G h
  unfold chkE at h
  split at h
  · obtain ⟨h1, h2⟩ := and2 h
    exact out_val (e_tup (hs sc W X _ G h1 h2)) rfl
  · cases h
theorem c_lst {es : CEs} (hs : IHEs g ca n N es) : IHE g ca n N (.lst es) := by
  intro sc W X e G h
  unfold chkE at h
  split at h
  · obtain ⟨h1, h2⟩ := and2 h
    exact out_val (e_lst (hs sc W X _ G h1 h2)) rfl
  · cases h
theorem c_lstM {es : CEs} (hs : IHEs g ca n N es) : IHE g ca n N (.lstM es) := by
  intro sc W X e G h
  unfold chkE at h
  split at h
  · obtain ⟨h1, h2⟩ := and2 h
    exact out_val (e_lstM (hs sc W X _ G h1 h2)) rfl
  · cases h
theorem c_idx {a i : CE} (ha : IHE g ca n N a) (hi : IHE g ca n N i) : IHE g ca n N (.idx a i) := by
  intro sc W X e G h
  unfold chkE at h
  split at h
  · obtain ⟨h1, h⟩ := and2 h
    obtain ⟨h2, h3⟩ := and2 h
    exact out_val (e_idx (not1 h1) (ha sc W X _ G h2).pe (hi sc W X _ G h3).pe) rfl
  · cases h
theorem c_idxD {a i : CE} (ha : IHE g ca n N a) (hi : IHE g ca n N i) : IHE g ca n N (.idxD a i) := by
  intro sc W X e G h
  unfold chkE at h
  split at h
  · obtain ⟨h1, h⟩ := and2 h
    obtain ⟨h2, h3⟩ := and2 h
    exact out_val (e_idxD (not1 h1) G.un1 (ha sc W X _ G h2).pe (hi sc W X _ G h3).pe) rfl
  · cases h
theorem c_inD {k a : CE} (hk : IHE g ca n N k) (ha : IHE g ca n N a) : IHE g ca n N (.inD k a) := by
  intro sc W X e G h
  unfold chkE at h
  split at h
  · obtain ⟨h1, h⟩ := and2 h
    obtain ⟨h2, h3⟩ := and2 h
    exact out_cmp (e_inD G.un1 (hk sc W X _ G h2).pe (ha sc W X _ G h3).pe (not1 h1)) (t_inD G.un1 (hk sc W X _ G h2).pe (ha sc W X _ G h3).pe (not1 h1)) (fun _ _ _ => by intro z; cases z)
  · cases h
theorem c_ninD {k a : CE} (hk : IHE g ca n N k) (ha : IHE g ca n N a) : IHE g ca n N (.ninD k a) := by
  intro sc W X e G h
  unfold chkE at h
  split at h
  · obtain ⟨h1, h⟩ := and2 h
    obtain ⟨h2, h3⟩ := and2 h
    exact out_cmp (e_ninD G.un1 (hk sc W X _ G h2).pe (ha sc W X _ G h3).pe (not1 h1)) (t_ninD G.un1 (hk sc W X _ G h2).pe (ha sc W X _ G h3).pe (not1 h1)) (fun _ _ _ => by intro z; cases z)
  · cases h
theorem c_slc {a : CE} {lo hi : CO} (ha : IHE g ca n N a) (hl : IHO g ca n N lo) (hh : IHO g ca n N hi) : IHE g ca n N (.slc a lo hi) := by
  intro sc W X e G h
  unfold chkE at h
  split at h
  · obtain ⟨h1, h⟩ := and2 h
    obtain ⟨h2, h3⟩ := and2 h
    exact out_val (e_slc (ha sc W X _ G h1).pe (hl sc W X _ G h2) (hh sc W X _ G h3)) rfl
  · cases h
theorem c_rev {a : CE} (ha : IHE g ca n N a) : IHE g ca n N (.rev a) := by
  intro sc W X e G h
  unfold chkE at h
  split at h
  · exact out_val (e_revA (ha sc W X _ G h).pe) rfl
  · cases h
theorem c_call {f : Nat} {es : CEs} {more : List D} (hs : IHEs g ca n N es) : IHE g ca n N (.call f es more) := by
  intro sc W X e G h
  unfold chkE at h
  split at h
  · rename_i x px ees pos
    obtain ⟨h1, h⟩ := and2 h
    obtain ⟨h2, h⟩ := and2 h
    obtain ⟨h3, h⟩ := and2 h
    obtain ⟨h4, h⟩ := and2 h
    split at h
    · rename_i cf hf
      obtain ⟨h5, h6⟩ := and2 h
      obtain ⟨b, hb, h7⟩ := List.any_eq_true.mp h6
      obtain ⟨h8, h9⟩ := and2 h7
      obtain ⟨adr, fd, q1, q2, q3, _, q4⟩ := G.facts.fn f cf hf
      obtain ⟨dvs, ds, d1, d2, d3⟩ := q4 b hb
      rw [of_decide_eq_true h5] at q2
      rw [sameDs_ok h9] at d3
      have ha := hs sc W X _ G h3 h4
      refine out_val ?_ rfl
      cases ees with
      | nil =>
        cases es with
        | nil => exact e_call0 q1 G.room (G.gl h1) q2 q3 d2 d1 d3 G.tk (ndb_of h2)
        | cons _ _ => cases h4
      | cons e0 er => exact e_call q1 G.room (G.gl h1) q2 q3 d2 d1 d3 G.tk ha (ndb_of h2) h3
    · cases h
  · cases h
theorem notname {x : Str} (h : x = "abs" ∨ True) (hx : decide (x = ("__name__" : Str)) = false) : x ≠ "__name__" := of_decide_eq_false hx
def IHA (g : Gi) (ca : Nat → Addr) (n : Nat) (N : List Str) : CEs → Prop
  | .nil => True
  | .cons a as => IHE g ca n N a ∧ IHA g ca n N as
theorem c_bi {b : Bi} {es : CEs} (hs : IHEs g ca n N es) (hA : IHA g ca n N es) : IHE g ca n N (.bi b es) := by
  intro sc W X e G h
  unfold chkE at h
  split at h
  · rename_i x px ees pos
    by_cases hb0 : b = .sortSet
    · subst hb0
      rw [if_pos (by decide)] at h
      split at h
      · rename_i y py ea pos2
        obtain ⟨h1, h⟩ := and2 h
        obtain ⟨h2, h⟩ := and2 h
        obtain ⟨h3, h⟩ := and2 h
        obtain ⟨h4, h⟩ := and2 h
        obtain ⟨h5, h⟩ := and2 h
        obtain ⟨h6, h⟩ := and2 h
        obtain ⟨h7, h8⟩ := and2 h
        cases (of_decide_eq_true h1)
        cases (of_decide_eq_true h2)
        cases es with
        | nil => cases h8
        | cons ce ces =>
          cases ces with
          | cons _ _ => have h9 := (and2 (show (chkE g N ce sc ea && chkEs g N _ sc []) = true from h8)).2; cases h9
          | nil =>
            have h9 := (and2 (show (chkE g N ce sc ea && chkEs g N .nil sc []) = true from h8)).1
            exact out_val (e_sortSet G.calm (G.gl h3) (G.facts.free _ (of_decide_eq_true h5)) (G.gl h4) (G.facts.free _ (of_decide_eq_true h6)) (hA.1 sc W X ea G h9).pe (not1 h7)) rfl
      · cases h
    rw [if_neg (by simpa using hb0)] at h
    obtain ⟨h1, h⟩ := and2 h
    obtain ⟨h2, h⟩ := and2 h
    obtain ⟨h3, h⟩ := and2 h
    obtain ⟨h4, h⟩ := and2 h
    obtain ⟨h5, h6⟩ := and2 h
    have hb := of_decide_eq_true h4
    have hm := G.facts.free x (of_decide_eq_true h5)
    have ha := hs sc W X _ G h2 h6
    have hg := G.gl h3
    cases ees with
    | nil => cases h1
    | cons e0 er =>
      refine out_val ?_ rfl
      cases b <;> first | (cases hb; done) | skip
      · cases hb; exact e_bi cr_absD hg hm (by decide +kernel) ha (by decide) (by decide) h2
      · cases hb; exact e_bi (cr_allD G.calm) hg hm (by decide +kernel) ha (by decide) (by decide) h2
      · cases hb; exact e_bi (cr_anyD G.calm) hg hm (by decide +kernel) ha (by decide) (by decide) h2
      · cases hb; exact e_ty cr_boolD hg hm (by decide +kernel) ha (by decide) (by decide) h2
      · cases hb; exact e_ty cr_intD hg hm (by decide +kernel) ha (by decide) (by decide) h2
      · cases hb; exact e_bi cr_lenD hg hm (by decide +kernel) ha (by decide) (by decide) h2
      · cases hb; exact e_ty cr_listD hg hm (by decide +kernel) ha (by decide) (by decide) h2
      · cases hb; exact e_ty cr_tupleD hg hm (by decide +kernel) ha (by decide) (by decide) h2
      · cases hb; exact e_bi (cr_max2D G.calm) hg hm (by decide +kernel) ha (by decide) (by decide) h2
      · cases hb; exact e_bi (cr_min2D G.calm) hg hm (by decide +kernel) ha (by decide) (by decide) h2
      · cases hb; exact e_bi cr_sortStrD hg hm (by decide +kernel) ha (by decide) (by decide) h2
  · cases h
theorem c_rngL {a : CE} (ha : IHE g ca n N a) : IHE g ca n N (.rngL a) := by
  intro sc W X e G h
  unfold chkE at h
  split at h
  · obtain ⟨h1, h⟩ := and2 h
    obtain ⟨h2, h⟩ := and2 h
    obtain ⟨h3, h⟩ := and2 h
    obtain ⟨h4, h⟩ := and2 h
    obtain ⟨h5, h⟩ := and2 h
    obtain ⟨h6, h⟩ := and2 h
    obtain ⟨h7, h8⟩ := and2 h
    cases (of_decide_eq_true h1)
    cases (of_decide_eq_true h2)
    exact out_val (e_rngL (x := "list") (y := "range") G.calm (G.gl h3) (G.facts.free _ (of_decide_eq_true h5)) (G.gl h4) (G.facts.free _ (of_decide_eq_true h6)) (ha sc W X _ G h8).pe (not1 h7)) rfl
  · cases h
theorem c_rngL2 {a b : CE} (ha : IHE g ca n N a) (hb : IHE g ca n N b) : IHE g ca n N (.rngL2 a b) := by
  intro sc W X e G h
  unfold chkE at h
  split at h
  · obtain ⟨h1, h⟩ := and2 h
    obtain ⟨h2, h⟩ := and2 h
    obtain ⟨h3, h⟩ := and2 h
    obtain ⟨h4, h⟩ := and2 h
    obtain ⟨h5, h⟩ := and2 h
    obtain ⟨h6, h⟩ := and2 h
    obtain ⟨h7, h⟩ := and2 h
    obtain ⟨h8, h⟩ := and2 h
    obtain ⟨h9, h10⟩ := and2 h
    cases (of_decide_eq_true h1)
    cases (of_decide_eq_true h2)
    exact out_val (e_rngL2 G.calm (G.gl h3) (G.facts.free _ (of_decide_eq_true h5)) (G.gl h4) (G.facts.free _ (of_decide_eq_true h6)) (ha sc W X _ G h9).pe (hb sc W X _ G h10).pe (not1 h7) (not1 h8)) rfl
  · cases h
theorem c_isi {a : CE} {t : Ty} (ha : IHE g ca n N a) : IHE g ca n N (.isi a t) := by
  intro sc W X e G h
  unfold chkE at h
  split at h
  · obtain ⟨h1, h⟩ := and2 h
    obtain ⟨h2, h⟩ := and2 h
    obtain ⟨h3, h⟩ := and2 h
    obtain ⟨h4, h⟩ := and2 h
    obtain ⟨h5, h⟩ := and2 h
    obtain ⟨h6, h⟩ := and2 h
    obtain ⟨h7, h8⟩ := and2 h
    cases (of_decide_eq_true h1)
    exact out_val (e_isi (of_decide_eq_true h2) (G.gl h3) (G.facts.free _ (of_decide_eq_true h5)) (G.gl h4) (G.facts.free _ (of_decide_eq_true h6)) (ha sc W X _ G h8).pe (not1 h7)) rfl
  · cases h
/-! ### targets and comprehensions -/
theorem loc_of {x : Str} (G : Good g ca n N sc W X) (h : locB sc x = true) : Loc X.env.scope x ∧ (X.fn x = true ∨ X.env.scope.names.lookup x = some .local) := by
  unfold locB at h
  split at h
  · rename_i e; exact ⟨.inl (G.keep x _ (by decide) e), .inr (G.keep x _ (by decide) e)⟩
  · rename_i e; exact ⟨.inr (G.keep x _ (by decide) e), .inl (G.fnc x e)⟩
  · cases h
theorem tupT_star : ∀ {ts : TgL} {es : List Expr}, chkTgs N sc ts es = true → (assignEach es X.env).findIdx? (·.1) = none ∧ (assignEach es X.env).length = es.length
  | .nil, [], _ => ⟨rfl, rfl⟩
  | .nil, _ :: _, h => by cases h
  | .cons t ts, [], h => by cases h
  | .cons t ts, e :: es, h => by
    have h : (!isStarT e && chkTg N sc t e && chkTgs N sc ts es) = true := h
    obtain ⟨h1, h2⟩ := and2 h
    obtain ⟨h3, h4⟩ := and2 h1
    obtain ⟨q1, q2⟩ := tupT_star h2
    rw [each_cons (not1 h3)]
    refine ⟨?_, by rw [List.length_cons, List.length_cons, q2]⟩
    rw [List.findIdx?_cons]
    simp [q1]
mutual
theorem c_tg (G : Good g ca n N sc W X) : ∀ {t : Tg} {e : Expr}, chkTg N sc t e = true → PG X e (tTg X.K t)
  | .nm i, e, h => by
    unfold chkTg at h
    split at h
    · obtain ⟨h1, h2⟩ := and2 h
      obtain ⟨q1, q2⟩ := loc_of G h2
      exact g_name (by rw [G.hN]; exact G.nd) (by rw [G.hN]; exact of_decide_eq_true h1) q1 q2
    · cases h
  | .tp ts, e, h => by
    unfold chkTg at h
    split at h
    · obtain ⟨h1, h2⟩ := and2 h
      obtain ⟨q1, q2⟩ := tupT_star (X := X) h2
      exact g_tup G.calm (by rw [q2]; exact of_decide_eq_true h1) q1 (c_tgs G h2)
    · cases h
theorem c_tgs (G : Good g ca n N sc W X) : ∀ {ts : TgL} {es : List Expr}, chkTgs N sc ts es = true → PGs X es (tTgs X.K ts)
  | .nil, [], _ => gs_nil
  | .nil, _ :: _, h => by cases h
  | .cons t ts, [], h => by cases h
  | .cons t ts, e :: es, h => by
    have h : (!isStarT e && chkTg N sc t e && chkTgs N sc ts es) = true := h
    obtain ⟨h1, h2⟩ := and2 h
    obtain ⟨h3, h4⟩ := and2 h1
    exact gs_cons (not1 h3) (c_tg G h4) (c_tgs G h2)
end
theorem own_slots {slots : List Nat} : (ownOf N slots).map (·.2) = slots := by
  unfold ownOf
  rw [List.map_map]
  exact List.map_id _
theorem c_lc {el : CE} {tg : Tg} {it : CI} (he : IHE g ca n N el) (hi : IHI g ca n N it) : IHE g ca n N (.lc el tg it) := by
  intro sc W X e G h
  unfold chkE at h
  split at h
  · rename_i ee tgE iter scope pos
    obtain ⟨h1, h⟩ := and2 h
    obtain ⟨h2, h⟩ := and2 h
    obtain ⟨h3, h⟩ := and2 h
    obtain ⟨h4, h5⟩ := and2 h
    have ok := blkOk_by h1
    exact out_val (e_lc G.calm (by rw [G.hN]; exact G.nd) (hi sc W X _ _ G h3) (by rw [G.hN]; exact G.blkOk ok) own_slots (fun s H C cl fp => c_tg (G.blk ok.kind s H C cl fp) h2) (fun s H C cl fp => (he scope WF _ _ (G.blk ok.kind s H C cl fp) h5).pe) (not1 h4)) rfl
  · cases h
theorem c_lcIf {el c : CE} {tg : Tg} {it : CI} (he : IHE g ca n N el) (hi : IHI g ca n N it) (hc : IHE g ca n N c) : IHE g ca n N (.lcIf el tg it c) := by
  intro sc W X e G h
  unfold chkE at h
  split at h
  · rename_i ee tgE iter ec scope pos
    obtain ⟨h1, h⟩ := and2 h
    obtain ⟨h2, h⟩ := and2 h
    obtain ⟨h3, h⟩ := and2 h
    obtain ⟨h4, h⟩ := and2 h
    obtain ⟨h5, h6⟩ := and2 h
    have ok := blkOk_by h1
    exact out_val (e_lcIf G.calm (by rw [G.hN]; exact G.nd) (hi sc W X _ _ G h3) (by rw [G.hN]; exact G.blkOk ok) own_slots (fun s H C cl fp => c_tg (G.blk ok.kind s H C cl fp) h2) (fun s H C cl fp => (hc scope WF _ _ (G.blk ok.kind s H C cl fp) h6).pt) (fun s H C cl fp => (he scope WF _ _ (G.blk ok.kind s H C cl fp) h5).pe) (not1 h4)) rfl
  · cases h
/-! ### what is walked -/
theorem ci_seq {a : CE} (ha : IHE g ca n N a) : IHI g ca n N (.seq a) := by
  intro sc W X tg e G h
  exact i_seq (ha sc W X _ G h).pe
theorem ci_rng {a : CE} (ha : IHE g ca n N a) : IHI g ca n N (.rng a) := by
  intro sc W X tg e G h
  unfold chkI at h
  split at h
  · obtain ⟨h1, h⟩ := and2 h
    obtain ⟨h2, h⟩ := and2 h
    obtain ⟨h3, h⟩ := and2 h
    obtain ⟨h4, h5⟩ := and2 h
    cases (of_decide_eq_true h1)
    exact i_rng (G.gl h2) (G.facts.free _ (of_decide_eq_true h3)) (not1 h4) (ha sc W X _ G h5).pe
  · cases h
theorem ci_rng2 {a b : CE} (ha : IHE g ca n N a) (hb : IHE g ca n N b) : IHI g ca n N (.rng2 a b) := by
  intro sc W X tg e G h
  unfold chkI at h
  split at h
  · obtain ⟨h1, h⟩ := and2 h
    obtain ⟨h2, h⟩ := and2 h
    obtain ⟨h3, h⟩ := and2 h
    obtain ⟨h4, h⟩ := and2 h
    obtain ⟨h5, h⟩ := and2 h
    obtain ⟨h6, h7⟩ := and2 h
    cases (of_decide_eq_true h1)
    exact i_rng2 (G.gl h2) (G.facts.free _ (of_decide_eq_true h3)) (not1 h4) (not1 h5) (ha sc W X _ G h6).pe (hb sc W X _ G h7).pe
  · cases h
theorem ci_enum {a : CE} (ha : IHE g ca n N a) : IHI g ca n N (.enum a) := by
  intro sc W X tg e G h
  unfold chkI at h
  split at h
  · obtain ⟨h0, h⟩ := and2 h
    obtain ⟨h1, h⟩ := and2 h
    obtain ⟨h2, h⟩ := and2 h
    obtain ⟨h3, h⟩ := and2 h
    obtain ⟨h4, h5⟩ := and2 h
    cases (of_decide_eq_true h1)
    cases tg <;> first | (cases h0; done) | skip
    exact i_enum (G.gl h2) (G.facts.free _ (of_decide_eq_true h3)) (not1 h4) (ha sc W X _ G h5).pe
  · cases h
theorem ci_zip {a b : CE} (ha : IHE g ca n N a) (hb : IHE g ca n N b) : IHI g ca n N (.zip a b) := by
  intro sc W X tg e G h
  unfold chkI at h
  split at h
  · obtain ⟨h0, h⟩ := and2 h
    obtain ⟨h1, h⟩ := and2 h
    obtain ⟨h2, h⟩ := and2 h
    obtain ⟨h3, h⟩ := and2 h
    obtain ⟨h4, h⟩ := and2 h
    obtain ⟨h5, h⟩ := and2 h
    obtain ⟨h6, h7⟩ := and2 h
    cases (of_decide_eq_true h1)
    cases tg <;> first | (cases h0; done) | skip
    exact i_zipA (G.gl h2) (G.facts.free _ (of_decide_eq_true h3)) (not1 h4) (not1 h5) (ha sc W X _ G h6).pe (hb sc W X _ G h7).pe
  · cases h
abbrev IHD (g : Gi) (ca : Nat → Addr) (n : Nat) (N : List Str) (ces : CEs) : Prop := ∀ (sc : Scope) (W : WX) (X : Cx) (ks : List Key) (kes : List (Option Expr)) (es : List Expr), Good g ca n N sc W X → chkD g N ces ks sc kes es = true → DE X ca W (callN g.tab n) kes es ks ces
abbrev IHJ (g : Gi) (ca : Nat → Addr) (n : Nat) (N : List Str) (ces : CEs) : Prop := ∀ (sc : Scope) (W : WX) (X : Cx) (es : List Expr), Good g ca n N sc W X → chkEs g N ces sc es = true → PJE X ca W (callN g.tab n) es ces
theorem c_dicM {ks : List Key} {es : CEs} (hs : IHD g ca n N es) : IHE g ca n N (.dicM ks es) := by
  intro sc W X e G h
  unfold chkE at h
  split at h
  · rename_i kes ees pos
    obtain ⟨h1, h⟩ := and2 h
    obtain ⟨h2, h3⟩ := and2 h
    exact out_val (e_dicM (hs sc W X _ _ _ G h3) (fun z => by rw [z] at h1; cases h1) (of_decide_eq_true h2)) rfl
  · cases h
theorem c_fmt {a : CE} (ha : IHE g ca n N a) : IHE g ca n N (.fmt a) := by
  intro sc W X e G h
  unfold chkE at h
  split at h
  · rename_i ea c sp pos
    obtain ⟨h1, h⟩ := and2 h
    obtain ⟨h2, h3⟩ := and2 h
    cases (of_decide_eq_true h1 : c = -1)
    cases sp <;> first | (cases h2; done) | skip
    exact out_val (e_fmt (ha sc W X _ G h3).pe) rfl
  · cases h
theorem c_fstr {es : CEs} (hs : IHJ g ca n N es) : IHE g ca n N (.fstr es) := by
  intro sc W X e G h
  unfold chkE at h
  split at h
  · rename_i ees pos
    obtain ⟨h1, h2⟩ := and2 h
    have hl := of_decide_eq_true h1
    have q := hs sc W X ees G h2
    match ees, hl, q with
    | v1 :: v2 :: rest, _, q => exact out_val (e_fstr q) rfl
    | [v1], hl, _ => simp at hl
    | [], hl, _ => simp at hl
  · cases h
theorem c_addM {a b : CE} (ha : IHE g ca n N a) (hb : IHE g ca n N b) : IHE g ca n N (.addM a b) := by
  intro sc W X e G h
  unfold chkE at h
  cases e <;> first | (cases h; done) | skip
  obtain ⟨h1, h2⟩ := and2 h
  obtain ⟨h3, h4⟩ := and2 h2
  cases (of_decide_eq_true h1)
  exact out_val (e_addM (ha sc W X _ G h3).pe (hb sc W X _ G h4).pe) rfl
theorem recv_str {M : Mem} {b : Bi} {x : D} (hb : b = .join ∨ b = .split ∨ b = .upper) (h : recv M b x = some ()) : ∃ z, x = .str z := by
  rcases hb with rfl | rfl | rfl <;> (cases x <;> first | (cases h; done) | exact ⟨_, rfl⟩)
theorem c_me {b : Bi} {a : CE} {es : CEs} (ha : IHE g ca n N a) (hs : IHA g ca n N es) : IHE g ca n N (.me b a es) := by
  intro sc W X e G h
  unfold chkE at h
  split at h
  · obtain ⟨h1, h⟩ := and2 h
    obtain ⟨h2, h⟩ := and2 h
    obtain ⟨h3, h⟩ := and2 h
    obtain ⟨h4, h⟩ := and2 h
    obtain ⟨h5, h6⟩ := and2 h
    cases (of_decide_eq_true h3)
    cases (of_decide_eq_true h4)
    cases es with
    | nil => exact out_val (e_m0 (fun _ => rfl) PySem.F.slot_str_upper PySem.F.type_str_upper mt_upperD (fun M x h => recv_str (.inr (.inr rfl)) h) (ha sc W X _ G h6).pe h1 h2) rfl
    | cons _ _ => cases h5
  · rename_i ea m apos e1 cpos
    obtain ⟨h1, h⟩ := and2 h
    obtain ⟨h2, h⟩ := and2 h
    obtain ⟨h3, h⟩ := and2 h
    obtain ⟨h4, h⟩ := and2 h
    obtain ⟨h5, h6⟩ := and2 h
    cases es with
    | nil => cases h6
    | cons ce1 ces =>
      cases ces with
      | cons _ _ => have h6 := (and2 (show (chkE g N ce1 sc e1 && chkEs g N _ sc []) = true from h6)).2; cases h6
      | nil =>
        have h7 := (and2 (show (chkE g N ce1 sc e1 && chkEs g N .nil sc []) = true from h6)).1
        have he : PE X e1 (tE X.K ca W (ev (callN g.tab n) ce1)) := (hs.1 sc W X e1 G h7).pe
        rcases Bool.or_eq_true_iff.mp h4 with h4 | h4
        · obtain ⟨k1, k2⟩ := and2 h4
          cases (of_decide_eq_true k1)
          cases (of_decide_eq_true k2)
          exact out_val (e_count (ha sc W X _ G h5).pe he (not1 h3) h1 h2) rfl
        · rcases Bool.or_eq_true_iff.mp h4 with h4 | h4
          · obtain ⟨k1, k2⟩ := and2 h4
            cases (of_decide_eq_true k1)
            cases (of_decide_eq_true k2)
            exact out_val (e_m1 (fun _ => rfl) PySem.F.slot_str_join PySem.F.type_str_join mt_joinD (fun M x h => recv_str (.inl rfl) h) (ha sc W X _ G h5).pe he (not1 h3) h1 h2) rfl
          · obtain ⟨k1, k2⟩ := and2 h4
            cases (of_decide_eq_true k1)
            cases (of_decide_eq_true k2)
            exact out_val (e_m1 (fun _ => rfl) PySem.F.slot_str_split PySem.F.type_str_split mt_splitD (fun M x h => recv_str (.inr (.inl rfl)) h) (ha sc W X _ G h5).pe he (not1 h3) h1 h2) rfl
  · rename_i ea m apos e1 e2 cpos
    obtain ⟨h1, h⟩ := and2 h
    obtain ⟨h2, h⟩ := and2 h
    obtain ⟨h3, h⟩ := and2 h
    obtain ⟨h3', h⟩ := and2 h
    obtain ⟨h4, h⟩ := and2 h
    obtain ⟨h4', h⟩ := and2 h
    obtain ⟨h5, h6⟩ := and2 h
    cases (of_decide_eq_true h4)
    cases (of_decide_eq_true h4')
    cases es with
    | nil => cases h6
    | cons ce1 ces =>
      cases ces with
      | nil => have h6 := (and2 (show (chkE g N ce1 sc e1 && chkEs g N .nil sc [e2]) = true from h6)).2; cases h6
      | cons ce2 ces =>
        cases ces with
        | cons _ _ => have h6 := (and2 (and2 (show (chkE g N ce1 sc e1 && (chkE g N ce2 sc e2 && chkEs g N _ sc [])) = true from h6)).2).2; cases h6
        | nil =>
          obtain ⟨h7, h8⟩ := and2 (show (chkE g N ce1 sc e1 && (chkE g N ce2 sc e2 && chkEs g N .nil sc [])) = true from h6)
          obtain ⟨h8, _⟩ := and2 h8
          exact out_val (e_get2 G.un1 (ha sc W X _ G h5).pe (hs.1 sc W X e1 G h7).pe (hs.2.1 sc W X e2 G h8).pe (not1 h3) (not1 h3') h1 h2) rfl
  · cases h
mutual
theorem sndE : ∀ ce : CE, IHE g ca n N ce
  | .var i => c_var
  | .con d => c_con
  | .bin op a b => c_bin (sndE a) (sndE b)
  | .neg a => c_neg (sndE a)
  | .cmp op a b => c_cmp (sndE a) (sndE b)
  | .isN a => c_isN (sndE a)
  | .notN a => c_notN (sndE a)
  | .chain p q a b c => c_chain (sndE a) (sndE b) (sndE c)
  | .and a b => c_and (sndE a) (sndE b)
  | .or a b => c_or (sndE a) (sndE b)
  | .not a => c_not (sndE a)
  | .notV a => c_notV (sndE a)
  | .ite c a b => c_ite (sndE c) (sndE a) (sndE b)
  | .tup es => c_tup (sndEs es)
  | .lst es => c_lst (sndEs es)
  | .lstM es => c_lstM (sndEs es)
  | .dicM ks es => c_dicM (sndD es)
  | .idx a i => c_idx (sndE a) (sndE i)
  | .idxD a i => c_idxD (sndE a) (sndE i)
  | .inD k a => c_inD (sndE k) (sndE a)
  | .ninD k a => c_ninD (sndE k) (sndE a)
  | .slc a lo hi => c_slc (sndE a) (sndO lo) (sndO hi)
  | .rev a => c_rev (sndE a)
  | .call f es more => c_call (sndEs es)
  | .bi b es => c_bi (sndEs es) (sndA es)
  | .me b a es => c_me (sndE a) (sndA es)
  | .rngL a => c_rngL (sndE a)
  | .rngL2 a b => c_rngL2 (sndE a) (sndE b)
  | .isi a t => c_isi (sndE a)
  | .lc el tg it => c_lc (sndE el) (sndI it)
  | .lcIf el tg it c => c_lcIf (sndE el) (sndI it) (sndE c)
  | .dcIfM k el tg it c => fun sc W X e G h => by cases h
  | .fmt a => c_fmt (sndE a)
  | .fstr es => c_fstr (sndJ es)
  | .addM a b => c_addM (sndE a) (sndE b)
theorem sndA : ∀ ces : CEs, IHA g ca n N ces
  | .nil => True.intro
  | .cons a as => ⟨sndE a, sndA as⟩
theorem sndD : ∀ ces : CEs, IHD g ca n N ces
  | .nil => fun sc W X ks kes es G h => by
    unfold chkD at h
    obtain ⟨h1, h2⟩ := and2 h
    obtain ⟨h2, h3⟩ := and2 h2
    cases ks <;> first | (cases h1; done) | skip
    cases kes <;> first | (cases h2; done) | skip
    cases es <;> first | (cases h3; done) | skip
    exact .nil
  | .cons a as => fun sc W X ks kes es G h => by
    unfold chkD at h
    split at h
    · obtain ⟨h1, h2⟩ := and2 h
      obtain ⟨h2, h3⟩ := and2 h2
      exact .cons h1 (sndE a sc W X _ G h2).pe (sndD as sc W X _ _ _ G h3)
    · cases h
theorem sndJ : ∀ ces : CEs, IHJ g ca n N ces
  | .nil => fun sc W X es G h => by
    cases es with
    | nil => exact .nil
    | cons _ _ => cases h
  | .cons a as => fun sc W X es G h => by
    cases es with
    | nil => cases h
    | cons e er =>
      obtain ⟨h1, h2⟩ := and2 (show (chkE g N a sc e && chkEs g N as sc er) = true from h)
      exact .cons (sndE a sc W X e G h1).pe (sndJ as sc W X er G h2)
theorem sndEs : ∀ ces : CEs, IHEs g ca n N ces
  | .nil => fun sc W X es G hs h => by
    cases es with
    | nil => exact a_nil
    | cons _ _ => cases h
  | .cons a as => fun sc W X es G hs h => by
    cases es with
    | nil => cases h
    | cons e er =>
      obtain ⟨h1, h2⟩ := and2 (show (chkE g N a sc e && chkEs g N as sc er) = true from h)
      obtain ⟨s1, s2⟩ := noStars_cons hs
      exact a_cons s1 (sndE a sc W X e G h1).pe (sndEs as sc W X er G s2 h2)
theorem sndO : ∀ o : CO, IHO g ca n N o
  | .no => fun sc W X e G h => by
    cases e with
    | none => exact o_no
    | some _ => cases h
  | .at a => fun sc W X e G h => by
    cases e with
    | none => cases h
    | some e => exact o_at (sndE a sc W X e G h).pe
theorem sndI : ∀ it : CI, IHI g ca n N it
  | .seq a => ci_seq (sndE a)
  | .rng a => ci_rng (sndE a)
  | .rng2 a b => ci_rng2 (sndE a) (sndE b)
  | .enum a => ci_enum (sndE a)
  | .zip a b => ci_zip (sndE a) (sndE b)
  | .keys i => fun sc W X tg e G h => by cases h
end
end
end Rf
end T_RfSnd
section T_RfSndS
set_option Elab.async false
set_option linter.all false
set_option maxRecDepth 100000
set_option maxHeartbeats 1000000
/-! Rf: the checker and what it promises: statements -/
namespace Rf
open PySem PySem.Spec PyProof.Rows L2
def swB (sc scope : Scope) (y : Str) (py pos : Pos) : Bool := decide (sc.names.lookup y = some .local) && (py.line == pos.line && !(scope.names.any fun (n, k) => n == y && (k == .local || k == .cell)))
/-- a value that is stored into a name -/
def chkV (g : Gi) (N : List Str) (sc : Scope) (ce : CE) (e : Expr) : Bool := (!isCompE e || (match e with | .ListComp _ _ _ _ => true | _ => false)) && chkE g N ce sc e
def isLoc (sc : Scope) (x : Str) : Bool := decide (sc.names.lookup x = some .local)
/-- an assignment to several targets -/
def chkPar (g : Gi) (N : List Str) (sc : Scope) (tg : Tg) (ce : CE) (ts : List Expr) (e : Expr) : Bool :=
  match e with
  | .Tuple vs _ _ =>
    if (!(ts.length == 2 || ts.length == 3) || vs.length != ts.length) || ((ts.any fun t => noLoc sc t) || vs.all (foldedForSure 8)) then true else
    match ts, vs, tg, ce with
    | [.Name x px, .Name y py], [a, b], .tp (.cons (.nm j) (.cons (.nm k) .nil)), .tup _ =>
      (py.line == px.line) && (!decide (x = y) && (!decide (j = k) && !(constantsAlone 8 a && constantsAlone 8 b)))
    | [.Name x px, .Name y py, .Name z pz], [a, b, c], .tp (.cons (.nm j) (.cons (.nm k) (.cons (.nm l) .nil))), .tup _ =>
      (py.line == px.line) && ((pz.line == px.line) && (!decide (x = y) && (!decide (x = z) && (!decide (y = z) && (!decide (j = k) && (!decide (j = l) && (!decide (k = l) && !(constantsAlone 8 a && (constantsAlone 8 b && constantsAlone 8 c)))))))))
    | _, _, _, _ => false
  | _ => true
def chkSD (g : Gi) (N : List Str) (sc : Scope) : CEs → CEs → List Expr → Bool
  | .nil, .nil, es => es.isEmpty
  | .cons co cos, .cons ci cis, es => match es with
    | .Subscript o i _ :: es => !isSlice i && (chkE g N co sc o && (chkE g N ci sc i && chkSD g N sc cos cis es))
    | _ => false
  | _, _, _ => false
mutual
def chkS (g : Gi) (N : List Str) (sc : Scope) : CS → Stmt → Bool
  | .asg tg ce, st => match st with
    | .Assign [.Name x px] e _ => (match tg with
      | .nm j => decide (N[j]? = some x) && (locB sc x && chkV g N sc ce e)
      | _ => false)
    | .Assign [.Tuple ts k p] e _ => !isCompE e && (chkTg N sc tg (.Tuple ts k p) && (chkE g N ce sc e && chkPar g N sc tg ce ts e))
    | _ => false
  | .setI o i ce, st => match st with
    | .Assign [.Subscript oE iE _] e _ => !isCompE e && (!isSlice iE && (chkE g N o sc oE && (chkE g N i sc iE && chkE g N ce sc e)))
    | _ => false
  | .setD o i ce, st => match st with
    | .Assign [.Subscript oE iE _] e _ => !isCompE e && (chkE g N o sc oE && (chkE g N i sc iE && chkE g N ce sc e))
    | _ => false
  | .setDs ts ks ce, st => match st with
    | .Assign [.Tuple es _ _] e _ => !isCompE e && (!es.isEmpty && (chkSD g N sc ts ks es && chkE g N ce sc e))
    | _ => false
  | .app o ce, st => match st with
    | .Expr (.Call (.Attribute oE m apos) [e] [] cpos) _ => decide (m = "append") && (plainRecv oE && ((apos.endLine == cpos.line) && (!isStar e && (chkE g N o sc oE && chkE g N ce sc e))))
    | _ => false
  | .ex ce, st => match st with
    | .Expr e _ => !isCompE e && chkE g N ce sc e
    | _ => false
  | .ret ce, st => match st with
    | .Return (some e) _ => chkE g N ce sc e
    | _ => false
  | .retN, st => match st with
    | .Return none _ => true
    | _ => false
  | .ite c a b, st => match st with
    | .If cE aE bE _ => chkE g N c sc cE && (chkSs g N sc a aE && chkSs g N sc b bE)
    | _ => false
  | .whl c b, st => match st with
    | .While cE bE [] _ => chkE g N c sc cE && chkSs g N sc b bE
    | _ => false
  | .for_ tg it b, st => match st with
    | .For tgE iE bE [] _ => !isSetE iE && (chkI g N it sc tgE iE && (chkTg N sc tg tgE && chkSs g N sc b bE))
    | _ => false
  | .rais k, st => match st with
    | .Raise (some (.Call (.Name x _) [.Constant (.str _) _ _] [] _)) none _ => glB sc x && (ndb x && decide (g.excs[k]? = some x))
    | _ => false
  | .frz _, _ => false
  | .pass, st => match st with
    | .Pass _ => true
    | _ => false
  | .brk, st => match st with
    | .Break _ => true
    | _ => false
  | .cont, st => match st with
    | .Continue _ => true
    | _ => false
def chkSs (g : Gi) (N : List Str) (sc : Scope) : List CS → List Stmt → Bool
  | [], ss => ss.isEmpty
  | s :: r, ss => match s with
    | .frz _ => chkSs g N sc r ss
    | _ => match ss with
      | st :: ss => chkS g N sc s st && chkSs g N sc r ss
      | [] => false
end
structure GoodS (g : Gi) (ca : Nat → Addr) (n : Nat) (N : List Str) (sc : Scope) (W : WX) (X : Cx) : Prop extends Good g ca n N sc W X where
  esc : X.env.scope = sc
  own : PassesOwn (model X.prog X.w) X.A X.env X.xe
section
variable {g : Gi} {ca : Nat → Addr} {n : Nat} {N : List Str} {sc : Scope} {W : WX} {X : Cx}
theorem hNd (G : GoodS g ca n N sc W X) : X.N.Nodup := by rw [G.hN]; exact G.nd
theorem slotN (G : GoodS g ca n N sc W X) {j : Nat} {x : Str} (h : decide (N[j]? = some x) = true) : X.N[j]? = some x := by rw [G.hN]; exact of_decide_eq_true h
theorem locS (G : GoodS g ca n N sc W X) {x : Str} (h : sc.names.lookup x = some .local) : X.env.scope.names.lookup x = some .local := by rw [G.esc]; exact h
theorem sw_lc {elt : Expr} {gs : List Comprehension} {scope : Scope} {pos py : Pos} {y : Str} {l : Nat} (G : GoodS g ca n N sc W X) (h : swB sc scope y py pos = false) : swapsWith (.ListComp elt gs scope pos) (some (.Name y py)) l X.env = pure false := by
  have e : swapsWith (.ListComp elt gs scope pos) (some (.Name y py)) l X.env = pure (X.env.blockKind == .function && X.env.kindOf y == some .local && py.line == pos.line && !(scope.names.any fun (n, k) => n == y && (k == .local || k == .cell))) := rfl
  rw [e]
  congr 1
  unfold swB at h
  cases q : (X.env.kindOf y == some .local) with
  | false => simp
  | true =>
    have q1 : X.env.scope.names.lookup y = some .local := beq_iff_eq.mp q
    rw [G.esc] at q1
    rw [q1] at h
    have h : (py.line == pos.line && !(scope.names.any fun (n, k) => n == y && (k == .local || k == .cell))) = false := by simpa using h
    rw [Bool.and_assoc, h, Bool.and_false]
theorem ss_name {tg : Tg} {ce : CE} {x : Str} {px pos : Pos} {e : Expr} {j : Nat} (G : GoodS g ca n N sc W X) (h1 : decide (N[j]? = some x) = true) (h2 : locB sc x = true) (h3 : chkV g N sc ce e = true) :
    PS X (.Assign [.Name x px] e pos) (tS X.K ca W (asgS (.nm j) (ev (callN g.tab n) ce))) := by
  obtain ⟨h4, h5⟩ := and2 h3
  obtain ⟨l1, l2⟩ := loc_of G.toGood h2
  have he := (sndE ce sc W X e G.toGood h5).pe
  cases hc : isCompE e with
  | false => exact s_set (hNd G) (slotN G h1) l1 l2 (noswap hc) he
  | true =>
    rw [hc] at h4
    cases e <;> first | (cases h4; done) | skip
    rename_i ee gs scope cpos
    cases hw : swB sc scope x px cpos with
    | false => exact s_set (hNd G) (slotN G h1) l1 l2 (sw_lc G hw) he
    | true =>
      obtain ⟨w1, w2⟩ := and2 hw
      obtain ⟨w3, w4⟩ := and2 w2
      have hl := locS G (of_decide_eq_true w1)
      have hk := G.ekind
      cases ce <;> first | (cases h5; done) | skip
      · rename_i el tg' it
        unfold chkE at h5
        split at h5
        · rename_i ee tgE iter scope pos q
          cases q
          obtain ⟨g1, g2⟩ := and2 h5
          obtain ⟨g2, g3⟩ := and2 g2
          obtain ⟨g3, g4⟩ := and2 g3
          obtain ⟨g4, g5⟩ := and2 g4
          have ok := blkOk_by g1
          exact s_setLc (fc := fun _ M => Rf.ok (.bl true) M) G.calm (hNd G) (slotN G h1) hl hk w3 (not1 w4) (sndI it sc W X _ _ G.toGood g3) (by rw [G.hN]; exact G.blkOk ok) own_slots (fun s H C cl fp => c_tg (G.blk ok.kind s H C cl fp) g2) (fun s H C cl fp => (sndE el scope WF _ _ (G.blk ok.kind s H C cl fp) g5).pe) (not1 g4)
        · cases h5
      · rename_i el tg' it c
        unfold chkE at h5
        split at h5
        · rename_i ee tgE iter ec scope pos q
          cases q
          obtain ⟨g1, g2⟩ := and2 h5
          obtain ⟨g2, g3⟩ := and2 g2
          obtain ⟨g3, g4⟩ := and2 g3
          obtain ⟨g4, g5⟩ := and2 g4
          obtain ⟨g5, g6⟩ := and2 g5
          have ok := blkOk_by g1
          exact s_setLcIf G.calm (hNd G) (slotN G h1) hl hk w3 (not1 w4) (sndI it sc W X _ _ G.toGood g3) (by rw [G.hN]; exact G.blkOk ok) own_slots (fun s H C cl fp => c_tg (G.blk ok.kind s H C cl fp) g2) (fun s H C cl fp => (sndE c scope WF _ _ (G.blk ok.kind s H C cl fp) g6).pt) (fun s H C cl fp => (sndE el scope WF _ _ (G.blk ok.kind s H C cl fp) g5).pe) (not1 g4)
        · cases h5
theorem noloc_of {sc : Scope} {x : Str} {p : Pos} (h : noLoc sc (.Name x p) = false) : sc.names.lookup x = some .local := by
  have h : (!decide (sc.names.lookup x = some .local)) = false := h
  simpa using h
theorem ss_tup {tg : Tg} {ce : CE} {ts : List Expr} {k : Nat} {p pos : Pos} {e : Expr} (G : GoodS g ca n N sc W X) (h1 : isCompE e = false) (h2 : chkTg N sc tg (.Tuple ts k p) = true) (h3 : chkE g N ce sc e = true) (h4 : chkPar g N sc tg ce ts e = true) :
    PS X (.Assign [.Tuple ts k p] e pos) (tS X.K ca W (asgS tg (ev (callN g.tab n) ce))) := by
  have he := (sndE ce sc W X e G.toGood h3).pe
  have hg := c_tg G.toGood h2
  cases q : isTupX e with
  | false => exact s_asg h1 rfl (sw_noTup q) he hg
  | true =>
    cases e <;> first | (cases q; done) | skip
    rename_i vs k2 p2
    unfold chkPar at h4
    split at h4
    · rename_i vs' k2' p2' e'
      cases e'
      split at h4
      · rename_i hc
        refine s_asg h1 rfl ?_ he hg
        rcases Bool.or_eq_true_iff.mp hc with hc | hc
        · exact sw_len hc
        · rcases Bool.or_eq_true_iff.mp hc with hc | hc
          · exact sw_some (by rw [G.esc]; exact hc)
          · exact sw_fold hc
      · rename_i hc
        have hnf : ((!(ts.length == 2 || ts.length == 3) || vs.length != ts.length) || ((ts.any fun t => noLoc sc t) || vs.all (foldedForSure 8))) = false := by simpa using hc
        clear hc
        have hnf := (Bool.or_eq_false_iff.mp hnf).2
        have hn := (Bool.or_eq_false_iff.mp hnf).1
        have hf := (Bool.or_eq_false_iff.mp hnf).2
        clear hnf
        split at h4
        · rename_i x px y py a b j k es
          obtain ⟨g1, g2⟩ := and2 h4
          obtain ⟨g2, g3⟩ := and2 g2
          obtain ⟨g3, g4⟩ := and2 g3
          have nx : noLoc sc (.Name x px) = false ∧ noLoc sc (.Name y py) = false := by simpa using hn
          have lx := noloc_of nx.1
          have ly := noloc_of nx.2
          unfold chkE at h3
          obtain ⟨g5, g6⟩ := and2 (show (noStars [a, b] && chkEs g N es sc [a, b]) = true from h3)
          obtain ⟨st1, st2⟩ := noStars_cons g5
          obtain ⟨st2, _⟩ := noStars_cons st2
          unfold chkTg at h2
          obtain ⟨t1, t2⟩ := and2 (show (decide _ && (!isStarT (.Name x px) && chkTg N sc (.nm j) (.Name x px) && (!isStarT (.Name y py) && chkTg N sc (.nm k) (.Name y py) && chkTgs N sc .nil []))) = true from h2)
          obtain ⟨t3, t4⟩ := and2 t2
          obtain ⟨_, t3⟩ := and2 t3
          obtain ⟨t4, _⟩ := and2 t4
          obtain ⟨_, t4⟩ := and2 t4
          have s1 := slotN G (and2 (show (decide (N[j]? = some x) && locB sc x) = true from t3)).1
          have s2 := slotN G (and2 (show (decide (N[k]? = some y) && locB sc y) = true from t4)).1
          exact s_par G.calm (hNd G) s1 s2 (of_decide_eq_false (not1 g3)) (locS G lx) (locS G ly) (sw_pair G.ekind (locS G lx) (locS G ly) g1 (of_decide_eq_false (not1 g2)) st1 st2 (by simpa using hf) (not1 g4)) (sndEs es sc W X _ G.toGood g5 g6)
        · rename_i x px y py z pz a b c j k l es
          obtain ⟨g1, g2⟩ := and2 h4
          obtain ⟨g2, g3⟩ := and2 g2
          obtain ⟨g3, g4⟩ := and2 g3
          obtain ⟨g4, g5⟩ := and2 g4
          obtain ⟨g5, g6⟩ := and2 g5
          obtain ⟨g6, g7⟩ := and2 g6
          obtain ⟨g7, g8⟩ := and2 g7
          obtain ⟨g8, g9⟩ := and2 g8
          have nx : noLoc sc (.Name x px) = false ∧ noLoc sc (.Name y py) = false ∧ noLoc sc (.Name z pz) = false := by simpa using hn
          have lx := noloc_of nx.1
          have ly := noloc_of nx.2.1
          have lz := noloc_of nx.2.2
          unfold chkE at h3
          obtain ⟨u5, u6⟩ := and2 (show (noStars [a, b, c] && chkEs g N es sc [a, b, c]) = true from h3)
          obtain ⟨st1, st2⟩ := noStars_cons u5
          obtain ⟨st2, st3⟩ := noStars_cons st2
          obtain ⟨st3, _⟩ := noStars_cons st3
          unfold chkTg at h2
          obtain ⟨t1, t2⟩ := and2 (show (decide _ && (!isStarT (.Name x px) && chkTg N sc (.nm j) (.Name x px) && (!isStarT (.Name y py) && chkTg N sc (.nm k) (.Name y py) && (!isStarT (.Name z pz) && chkTg N sc (.nm l) (.Name z pz) && chkTgs N sc .nil [])))) = true from h2)
          obtain ⟨t3, t4⟩ := and2 t2
          obtain ⟨_, t3⟩ := and2 t3
          obtain ⟨t4, t5⟩ := and2 t4
          obtain ⟨_, t4⟩ := and2 t4
          obtain ⟨t5, _⟩ := and2 t5
          obtain ⟨_, t5⟩ := and2 t5
          have s1 := slotN G (and2 (show (decide (N[j]? = some x) && locB sc x) = true from t3)).1
          have s2 := slotN G (and2 (show (decide (N[k]? = some y) && locB sc y) = true from t4)).1
          have s3 := slotN G (and2 (show (decide (N[l]? = some z) && locB sc z) = true from t5)).1
          exact s_par3 G.calm (hNd G) s1 s2 s3 (of_decide_eq_false (not1 g6)) (of_decide_eq_false (not1 g7)) (of_decide_eq_false (not1 g8)) (locS G lx) (locS G ly) (locS G lz)
            (sw_trip G.ekind (locS G lx) (locS G ly) (locS G lz) g1 g2 (of_decide_eq_false (not1 g3)) (of_decide_eq_false (not1 g4)) (of_decide_eq_false (not1 g5)) st1 st2 st3 (by simpa using hf) (not1 g9)) (sndEs es sc W X _ G.toGood u5 u6)
        · cases h4
    · rename_i hx
      exact absurd rfl (hx vs k2 p2)
abbrev IHS (g : Gi) (ca : Nat → Addr) (n : Nat) (N : List Str) (s : CS) : Prop := ∀ (sc : Scope) (W : WX) (X : Cx) (st : Stmt), GoodS g ca n N sc W X → chkS g N sc s st = true → PS X st (tS X.K ca W (ex (callN g.tab n) s))
abbrev IHSs (g : Gi) (ca : Nat → Addr) (n : Nat) (N : List Str) (s : List CS) : Prop := ∀ (sc : Scope) (W : WX) (X : Cx) (st : List Stmt), GoodS g ca n N sc W X → chkSs g N sc s st = true → PSs X st (tS X.K ca W (exs (callN g.tab n) s))
theorem st_asg {tg : Tg} {ce : CE} : IHS g ca n N (.asg tg ce) := by
  intro sc W X st G h
  unfold chkS at h
  split at h
  · split at h
    · obtain ⟨h1, h2⟩ := and2 h
      obtain ⟨h2, h3⟩ := and2 h2
      exact ss_name (tg := .nm 0) G h1 h2 h3
    · cases h
  · obtain ⟨h1, h2⟩ := and2 h
    obtain ⟨h2, h3⟩ := and2 h2
    obtain ⟨h3, h4⟩ := and2 h3
    exact ss_tup G (not1 h1) h2 h3 h4
  · cases h
theorem st_setI {o i ce : CE} : IHS g ca n N (.setI o i ce) := by
  intro sc W X st G h
  unfold chkS at h
  split at h
  · obtain ⟨h1, h⟩ := and2 h
    obtain ⟨h2, h⟩ := and2 h
    obtain ⟨h3, h⟩ := and2 h
    obtain ⟨h4, h5⟩ := and2 h
    exact s_setI (not1 h1) (not1 h2) (sndE o sc W X _ G.toGood h3).pe (sndE i sc W X _ G.toGood h4).pe (sndE ce sc W X _ G.toGood h5).pe
  · cases h
theorem st_setD {o i ce : CE} : IHS g ca n N (.setD o i ce) := by
  intro sc W X st G h
  unfold chkS at h
  split at h
  · obtain ⟨h1, h⟩ := and2 h
    obtain ⟨h3, h⟩ := and2 h
    obtain ⟨h4, h5⟩ := and2 h
    exact s_setD G.un1 (not1 h1) (sndE o sc W X _ G.toGood h3).pe (sndE i sc W X _ G.toGood h4).pe (sndE ce sc W X _ G.toGood h5).pe
  · cases h
theorem st_app {o ce : CE} : IHS g ca n N (.app o ce) := by
  intro sc W X st G h
  unfold chkS at h
  split at h
  · obtain ⟨h1, h⟩ := and2 h
    obtain ⟨h2, h⟩ := and2 h
    obtain ⟨h3, h⟩ := and2 h
    obtain ⟨h4, h⟩ := and2 h
    obtain ⟨h5, h6⟩ := and2 h
    cases (of_decide_eq_true h1)
    exact s_app h2 h3 (not1 h4) (sndE o sc W X _ G.toGood h5).pe (sndE ce sc W X _ G.toGood h6).pe
  · cases h
theorem st_ex {ce : CE} : IHS g ca n N (.ex ce) := by
  intro sc W X st G h
  unfold chkS at h
  split at h
  · obtain ⟨h1, h2⟩ := and2 h
    exact s_ex (not1 h1) (sndE ce sc W X _ G.toGood h2).pe
  · cases h
theorem st_ret {ce : CE} : IHS g ca n N (.ret ce) := by
  intro sc W X st G h
  unfold chkS at h
  split at h
  · exact s_ret (sndE ce sc W X _ G.toGood h).pe
  · cases h
theorem st_rais {k : Nat} : IHS g ca n N (.rais k) := by
  intro sc W X st G h
  unfold chkS at h
  split at h
  · obtain ⟨h1, h⟩ := and2 h
    obtain ⟨h2, h3⟩ := and2 h
    obtain ⟨q1, q2, q3, q4, q5⟩ := G.facts.exc _ _ (of_decide_eq_true h3)
    exact s_rais G.calm G.tk PySem.F.excBase_ValueError q3 q1 q2 (raises_own q4 q5) (G.gl h1) (ndb_of h2)
  · cases h
theorem sd_of : ∀ {cos cis : CEs} {es : List Expr}, Good g ca n N sc W X → chkSD g N sc cos cis es = true → SD X ca W (callN g.tab n) es cos cis
  | .nil, .nil, es, G, h => by
    cases es <;> first | (cases h; done) | skip
    exact .nil
  | .cons co cos, .cons ci cis, es, G, h => by
    unfold chkSD at h
    split at h
    · obtain ⟨h1, h⟩ := and2 h
      obtain ⟨h2, h⟩ := and2 h
      obtain ⟨h3, h4⟩ := and2 h
      exact .cons (not1 h1) (sndE co sc W X _ G h2).pe (sndE ci sc W X _ G h3).pe (sd_of G h4)
    · cases h
  | .nil, .cons _ _, _, _, h => by cases h
  | .cons _ _, .nil, _, _, h => by cases h
theorem st_setDs {ts ks : CEs} {ce : CE} : IHS g ca n N (.setDs ts ks ce) := by
  intro sc W X st G h
  unfold chkS at h
  split at h
  · rename_i es k p e pos
    obtain ⟨h1, h⟩ := and2 h
    obtain ⟨h2, h⟩ := and2 h
    obtain ⟨h3, h4⟩ := and2 h
    exact s_setDs G.un1 G.calm (sd_of G.toGood h3) (fun z => by rw [z] at h2; cases h2) (not1 h1) (sndE ce sc W X _ G.toGood h4).pe
  · cases h
mutual
theorem sndS : ∀ s : CS, IHS g ca n N s
  | .asg tg ce => st_asg
  | .setI o i ce => st_setI
  | .setD o i ce => st_setD
  | .setDs ts ks ce => st_setDs
  | .app o ce => st_app
  | .ex ce => st_ex
  | .ret ce => st_ret
  | .retN => fun sc W X st G h => by
    unfold chkS at h
    split at h
    · exact s_retN
    · cases h
  | .ite c a b => fun sc W X st G h => by
    unfold chkS at h
    split at h
    · obtain ⟨h1, h⟩ := and2 h
      obtain ⟨h2, h3⟩ := and2 h
      exact s_ite (sndE c sc W X _ G.toGood h1).pt (sndSs a sc W X _ G h2) (sndSs b sc W X _ G h3)
    · cases h
  | .whl c b => fun sc W X st G h => by
    unfold chkS at h
    split at h
    · obtain ⟨h1, h2⟩ := and2 h
      exact s_whl G.own (sndE c sc W X _ G.toGood h1).pt (sndSs b sc W X _ G h2)
    · cases h
  | .for_ tg it b => fun sc W X st G h => by
    unfold chkS at h
    split at h
    · obtain ⟨h1, h⟩ := and2 h
      obtain ⟨h2, h⟩ := and2 h
      obtain ⟨h3, h4⟩ := and2 h
      exact s_for G.own G.calm (not1 h1) (sndI it sc W X _ _ G.toGood h2) (c_tg G.toGood h3) (sndSs b sc W X _ G h4)
    · cases h
  | .rais k => st_rais
  | .frz i => fun sc W X st G h => by cases h
  | .pass => fun sc W X st G h => by
    unfold chkS at h
    split at h
    · exact s_pass
    · cases h
  | .brk => fun sc W X st G h => by
    unfold chkS at h
    split at h
    · exact s_brk
    · cases h
  | .cont => fun sc W X st G h => by
    unfold chkS at h
    split at h
    · exact s_cont
    · cases h
theorem sndSs : ∀ s : List CS, IHSs g ca n N s
  | [] => fun sc W X st G h => by
    cases st with
    | nil => exact ss_nil
    | cons _ _ => cases h
  | s :: r => fun sc W X st G h => by
    have main : ∀ st, (match st with | st :: ss => chkS g N sc s st && chkSs g N sc r ss | [] => false) = true → PSs X st (tS X.K ca W (thenS (ex (callN g.tab n) s) (exs (callN g.tab n) r))) := fun st h => by
      cases st with
      | nil => cases h
      | cons st ss =>
        obtain ⟨h1, h2⟩ := and2 h
        exact ss_cons (sndS s sc W X st G h1) (sndSs r sc W X ss G h2)
    cases s <;> first | exact main st h | exact ss_frz (sndSs r sc W X st G h)
end
end
end Rf
end T_RfSndS
section T_RfFn
set_option Elab.async false
set_option linter.all false
set_option maxRecDepth 100000
set_option maxHeartbeats 1000000
/-! Rf: defs, all levels at once -/
namespace Rf
open PySem PySem.Spec PyProof.Rows L2
/-- a def's names -/
def scB (N ps : List Str) (sc : Scope) : Bool :=
  decide (sc.kind = .function) && (!sc.isCoroutine && (!sc.isGenerator && (decide N.Nodup && (decide (N.take ps.length = ps) && (ps.all (fun x => decide (sc.names.lookup x = some .local ∨ sc.names.lookup x = some .cell)) && sc.names.all (fun y => !decide (y.2 = .free)))))))
theorem fnScope_of {N ps : List Str} {sc : Scope} (h : scB N ps sc = true) : FnScope N ps sc := by
  obtain ⟨h1, h⟩ := and2 h
  obtain ⟨h2, h⟩ := and2 h
  obtain ⟨h3, h⟩ := and2 h
  obtain ⟨h4, h⟩ := and2 h
  obtain ⟨h5, h⟩ := and2 h
  obtain ⟨h6, h7⟩ := and2 h
  exact ⟨of_decide_eq_true h1, not1 h2, not1 h3, of_decide_eq_true h4, of_decide_eq_true h5, fun x hx => of_decide_eq_true (List.all_eq_true.mp h6 x hx), fun y hy => of_decide_eq_false (not1 (List.all_eq_true.mp h7 y hy))⟩
def chkF (g : Gi) (cf : CF) : Bool := scB cf.N cf.ps cf.scope && chkSs g cf.N cf.scope cf.core cf.stmts
def chkAll (g : Gi) : Bool := g.fns.all fun cf => chkF g cf
/-- what stands behind the top, without a level -/
structure FactsB (g : Gi) (ca : Nat → Addr) (K : PySem.W.Frag) (mg : Str → Option Value) : Prop where
  free : ∀ x ∈ g.frees, mg x = none
  txt : ∀ p ∈ g.txts, ∃ u, mg p.1 = some u ∧ RelV (.str p.2) u
  num : ∀ p ∈ g.nums, ∃ u, mg p.1 = some u ∧ RelV (.int p.2) u
  tup : ∀ p ∈ g.tups, ∃ v u, mg p.1 = some u ∧ RelV v u ∧ ∀ ph F, Rel K ph F v p.2
  exc : ∀ k x, g.excs[k]? = some x → mg x = some (.ref (ca k)) ∧ PySem.W.keepIn K (.ref (ca k)) = true ∧ PySem.W.excIn K (ca k) [.type "ValueError", .type "Exception", .type "BaseException", .type "object"] "ValueError.__new__" = true ∧
    PySem.W.subIn K (.ref (ca k)) (.type "BaseException") = some true ∧ PySem.W.typeIn K (.ref (ca k)) = some (.type "type")
  fn : ∀ (f : Nat) (cf : CF), g.fns[f]? = some cf → ∃ (adr : Addr) (fd : FuncData), FunD K cf.name cf.name cf.params cf.stmts cf.scope (cf.dfl.map dvV) [] adr fd ∧ mg cf.name = some (.ref adr) ∧
    ∀ b ∈ cf.binds, ∃ dvs ds, Vals dvs ds ∧ Binds K fd cf.ps ds ∧ ∀ p F, Rels K p F dvs b.2
section
variable {K : PySem.W.Frag} {p : Ph} {F : Hp} {N : List Str}
theorem re_start {vs : List V} {ds : List D} (r : Rels K p F vs ds) {m : Nat} : RE K p F (ds.map some ++ List.replicate (m - ds.length) none) (vs.map some ++ List.replicate (m - vs.length) none) := by
  refine ⟨?_, fun i d e => ?_⟩
  · rw [List.length_append, List.length_append, List.length_map, List.length_map, List.length_replicate, List.length_replicate, r.length]
  · by_cases hi : i < ds.length
    · rw [List.getElem?_append_left (by rw [List.length_map]; exact hi), List.getElem?_map] at e
      cases q : ds[i]? with
      | none => rw [q] at e; cases e
      | some d' =>
        rw [q] at e
        have e : d' = d := Option.some.inj (Option.some.inj e)
        subst e
        obtain ⟨v, h1, h2⟩ := r.get q
        refine ⟨v, ?_, h2⟩
        rw [List.getElem?_append_left (by rw [List.length_map, r.length]; exact hi), List.getElem?_map, h1]
        rfl
    · rw [List.getElem?_append_right (by rw [List.length_map]; omega)] at e
      rw [List.getElem?_replicate] at e
      split at e <;> cases e
/-- back below the entry's cells -/
theorem step_back {p' : Ph} {F' H H' : Hp} (s : Step p F H p' F' H') : Step p F H p F' H' where
  ph := fun _ _ h => h
  lst := s.lst
  tup := s.tup
  dk := s.dk
  fz := s.fz
  keep := s.keep
  there := s.there
  new := fun _ _ h => .inl h
  fnew := s.fnew
theorem ph_back {p' : Ph} {H : Hp} {M : Mem} (rm : RM K p F M H) (l : ∀ n a, p n = some a → p' n = some a) : ∀ m a, m < M.length → p' m = some a → p m = some a := fun m a hm h => by
  obtain ⟨b, hb⟩ := (rm.dom m).mp hm
  have := l m b hb
  rw [h] at this
  cases this
  exact hb
end
section
variable {g : Gi} {ca : Nat → Addr} {P : Program} {w : World} {K : PySem.W.Frag} {mg : Str → Option Value} {base : Heap}
theorem sp_len {n f : Nat} {cf : CF} (hf : g.fns[f]? = some cf) : ∀ vs H Q E, spF K ca (callN g.tab n) f vs H Q E → vs.length = cf.ps.length := by
  intro vs H Q E ⟨p, F, M, ds, r, rm, rs, e, h⟩
  cases n with
  | zero => cases e
  | succ n =>
    have ht : g.tab f = some cf.fd := by unfold Gi.tab; rw [hf]; rfl
    have e : (match g.tab f with
      | some fd => runF (callN g.tab n) fd ds M
      | none => none) = some r := e
    rw [ht] at e
    have e : runF (callN g.tab n) cf.fd ds M = some r := e
    unfold runF at e
    split at e
    · rename_i hl
      rw [rs.length]
      exact hl
    · cases e
theorem facts_all (hc : chkAll g = true) (B : FactsB g ca K mg) : ∀ n, Facts g ca n P w K mg base
  | 0 => ⟨B.free, B.txt, B.num, B.tup, B.exc, fun f cf hf => by
    obtain ⟨adr, fd, q1, q2, q3⟩ := B.fn f cf hf
    refine ⟨adr, fd, ⟨sp_len hf, fun A outer s H args us vs Q E hr he hb hv hs => ?_⟩, q2, q1.kp, q1, q3⟩
    obtain ⟨p, F, M, ds, r, rm, rs, e, h⟩ := hs
    cases e⟩
  | n + 1 => ⟨B.free, B.txt, B.num, B.tup, B.exc, fun f cf hf => by
    have IH := facts_all hc B n
    obtain ⟨adr, fd, q1, q2, q3⟩ := B.fn f cf hf
    refine ⟨adr, fd, ?_, q2, q1.kp, q1, q3⟩
    have hcf := List.all_eq_true.mp hc cf (List.mem_of_getElem? hf)
    obtain ⟨c1, c2⟩ := and2 hcf
    have S := fnScope_of c1
    refine q1.ok (N := cf.N) S (sp_len hf) fun cdv A outer s H vs Q E hr hsp => ?_
    refine ⟨tS K ca (fun cls d _ H => E cls d H) (exs (callN g.tab n) cf.core), sndSs cf.core cf.scope _ _ cf.stmts ?_ c2, ?_⟩
    · exact { hN := rfl, nd := S.nd, keep := fun x k _ h => h, fre := fun x h => .inl h, ekind := S.kind, calm := rfl, room := hr, tk := takes_of rfl rfl rfl rfl, facts := IH, kind := S.kind, fnc := fun _ _ => rfl, esc := rfl, own := passes_of rfl }
    · obtain ⟨p, F, M, ds, r, rm, rs, e, h⟩ := hsp
      have ht : g.tab f = some cf.fd := by unfold Gi.tab; rw [hf]; rfl
      have e : (match g.tab f with
        | some fd => runF (callN g.tab n) fd ds M
        | none => none) = some r := e
      rw [ht] at e
      have e : runF (callN g.tab n) cf.fd ds M = some r := e
      unfold runF at e
      split at e
      · rename_i hl
        cases z : exs (callN g.tab n) cf.fd.body (ds.map some ++ List.replicate (cf.fd.slots - ds.length) none) M with
        | none => rw [z] at e; cases e
        | some q =>
          rw [z] at e
          refine ⟨p, F, _, M, q, rm, re_start rs, z, ?_⟩
          have fin : ∀ (d : D) (M' : Mem), leave M.length d M' = some r → ∀ p' F' H' v, Step p F H p' F' H' → RM K p' F' M' H' → Rel K p' F' v d → Q v H' := fun d M' el p' F' H' v st rm' rl => by
            unfold leave at el
            split at el
            · rename_i hlow
              cases el
              exact h p F' H' v (step_back st) (rm_cut rm' rm.dom st.ph) (rl.same (ph_back rm st.ph) hlow)
            · cases el
              exact h p' F' H' v st rm' rl
          obtain ⟨fl, env', M'⟩ := q
          cases fl with
          | nx => exact fun p' F' H' σ' st rm' re' => fin .non M' e p' F' H' .non st rm' .non
          | brk => cases e
          | cont => cases e
          | ret d => exact fun p' F' H' v st rm' rl => fin d M' e p' F' H' v st rm' rl
          | exc x =>
            have e : (if x.low M.length = true then some (R.er x (M'.take M.length)) else none) = some r := e
            split at e
            · rename_i hlow
              cases e
              intro p' F' H' σ' cls dd st rm' re' ex
              refine h p F' H' cls dd (step_back st) (rm_cut rm' rm.dom st.ph) ⟨ex.1, ?_⟩
              have e2 := ex.2
              unfold Exn.low at hlow
              cases q : x.line with
              | none => trivial
              | some d =>
                rw [q] at e2 hlow
                obtain ⟨a, v, k1, k2, k3⟩ := e2
                exact ⟨a, v, k1, k2, k3.same (ph_back rm st.ph) hlow⟩
            · cases e
      · cases e⟩
end
end Rf
end T_RfFn
section T_RfTop
set_option Elab.async false
set_option linter.all false
set_option maxRecDepth 100000
set_option maxHeartbeats 1000000
/-! Rf: what the module's top has written, told by names; the law's end -/
namespace Rf
open PySem PySem.Spec PyProof.Rows L2
def dvOf : D → He.Dv
  | .bl b => .bl b
  | .int i => .int i
  | .str s => .str s
  | _ => .non
theorem dv_eq {K : PySem.W.Frag} (d : D) : (dvOf d).v K = dvV d := by cases d <;> rfl
def CF.dd (cf : CF) : He.DefD := ⟨(cf.name, none), cf.name, cf.name, cf.params, cf.stmts, cf.scope, cf.dfl.map dvOf, []⟩
def Gi.fa (g : Gi) : List He.Fa := g.fns.map (fun cf => .glo cf.name) ++ (g.frees.map .free ++ (g.txts.map (fun p => .str p.1 p.2) ++ (g.nums.map (fun p => .int p.1 p.2) ++ (g.excs.map .glo ++ g.excs.map .exc))))
def Gi.fn (g : Gi) : List He.DefD := g.fns.map CF.dd
mutual
/-- a value that the module's top has written -/
def topB (K : PySem.W.Frag) : D → Value → Bool
  | .non, u => match u with | .none => true | _ => false
  | .bl b, u => match u with | .bool c => decide (b = c) | _ => false
  | .int i, u => match u with | .int j _ => decide (i = j) | _ => false
  | .str s, u => match u with | .str z _ => decide (s = z) | _ => false
  | .tup ds, u => match u with
    | .ref a => match K.lookup a with
      | some ⟨.type c, _, .seq its _, _⟩ => decide (c = "tuple") && (decide (its.size ≤ sizeLine) && topBs K ds its.toList)
      | _ => false
    | _ => false
  | _, _ => false
def topBs (K : PySem.W.Frag) : List D → List Value → Bool
  | [], us => us.isEmpty
  | d :: ds, us => match us with
    | u :: us => topB K d u && topBs K ds us
    | [] => false
end
mutual
theorem topB_ok {K : PySem.W.Frag} : ∀ (d : D) (u : Value), topB K d u = true → ∃ v, RelV v u ∧ ∀ ph F, Rel K ph F v d
  | .non, u, h => by
    cases u <;> first | (cases h; done) | skip
    exact ⟨.non, rfl, fun _ _ => .non⟩
  | .bl b, u, h => by
    cases u <;> first | (cases h; done) | skip
    cases (of_decide_eq_true h : _ = _)
    exact ⟨.bl b, rfl, fun _ _ => .bl _⟩
  | .int b, u, h => by
    cases u <;> first | (cases h; done) | skip
    cases (of_decide_eq_true h : _ = _)
    exact ⟨.int b, ⟨_, rfl⟩, fun _ _ => .int _⟩
  | .str b, u, h => by
    cases u <;> first | (cases h; done) | skip
    cases (of_decide_eq_true h : _ = _)
    exact ⟨.str b, ⟨_, rfl⟩, fun _ _ => .str _⟩
  | .tup ds, u, h => by
    unfold topB at h
    split at h
    · split at h
      · rename_i a _ c od its n sl hl
        obtain ⟨h1, h2⟩ := and2 h
        obtain ⟨h3, h4⟩ := and2 h2
        obtain ⟨vs, q1, q2⟩ := topBs_ok ds _ h4
        refine ⟨.ref a, rfl, fun ph F => .tup (.inr ⟨_, its, n, hl, congrArg Value.type (of_decide_eq_true h1), rfl, of_decide_eq_true h3, q1⟩) (q2 ph F)⟩
      · cases h
    · cases h
  | .lst _, u, h => by cases h
  | .dic _ _, u, h => by cases h
  | .cell _, u, h => by cases h
  | .scr _, u, h => by cases h
theorem topBs_ok {K : PySem.W.Frag} : ∀ (d : List D) (u : List Value), topBs K d u = true → ∃ v, Vals v u ∧ ∀ ph F, Rels K ph F v d
  | [], u, h => by
    cases u <;> first | (cases h; done) | skip
    exact ⟨[], .nil, fun _ _ => .nil⟩
  | d :: ds, u, h => by
    cases u with
    | nil => cases h
    | cons u us =>
      obtain ⟨h1, h2⟩ := and2 (show (topB K d u && topBs K ds us) = true from h)
      obtain ⟨v, q1, q2⟩ := topB_ok d u h1
      obtain ⟨vs, q3, q4⟩ := topBs_ok ds us h2
      exact ⟨v :: vs, .cons q1 q3, fun ph F => .cons (q2 ph F) (q4 ph F)⟩
end
def Gi.ex (g : Gi) (K : PySem.W.Frag) : Bool := g.tups.all fun p => match PySem.W.nsIn K mainGlobals p.1 with
  | some (some u) => topB K p.2 u
  | _ => false
def Gi.ca (g : Gi) (K : PySem.W.Frag) (k : Nat) : Addr := He.ga K (g.excs.getD k "")
/-- how a def's arguments bind -/
def BindOk (cf : CF) : Prop := ∀ (K : PySem.W.Frag) (adr : Addr) (fd : FuncData), FunD K cf.name cf.name cf.params cf.stmts cf.scope (cf.dfl.map dvV) [] adr fd → ∀ b ∈ cf.binds, ∃ dvs ds, Vals dvs ds ∧ Binds K fd cf.ps ds ∧ ∀ p F, Rels K p F dvs b.2
theorem bind_n {cf : CF} {n : Nat} (e : cf.binds = [(n, [])]) (e2 : cf.dfl = []) (h : ∀ (kV doc pm : Value) (an : Option Addr) (cdv ct : Value) (us : List Value), us.length = cf.ps.length → bindArgs (PySem.W.fnOf cf.name cf.name cf.params cf.stmts cf.scope .none kV doc pm an cdv ct) ⟨us, []⟩ = pure (cf.ps.zip us)) : BindOk cf := by
  intro K adr fd F b hb
  rw [e] at hb
  rw [e2] at F
  cases List.mem_singleton.mp hb
  exact ⟨[], [], .nil, F.bindsN h, fun _ _ => .nil⟩
theorem rels_flat {K : PySem.W.Frag} {p : Ph} {F : Hp} : ∀ {l : List D}, l.all flatD = true → Rels K p F (l.map dvV) l
  | [], _ => .nil
  | d :: l, h => by
    obtain ⟨h1, h2⟩ := and2 (show (flatD d && l.all flatD) = true by simpa using h)
    refine .cons ?_ (rels_flat h2)
    cases d <;> first | (cases h1; done) | constructor
theorem all_drop {l : List D} (h : l.all flatD = true) (j : Nat) : (l.drop j).all flatD = true :=
  List.all_eq_true.mpr fun x hx => List.all_eq_true.mp h x (List.mem_of_mem_drop hx)
/-- with defaults that are constants -/
theorem bind_d {cf : CF} (hf : cf.dfl.all flatD = true) (h0 : cf.dfl ≠ []) (h : ∀ b ∈ cf.binds, ∃ j, b.2 = cf.dfl.drop j ∧ b.1 + (cf.dfl.length - j) = cf.ps.length ∧
    ∀ (T : Addr) (kV doc pm : Value) (an : Option Addr) (cdv ct : Value) (us its : List Value), us.length = b.1 → its.length = cf.dfl.length →
      ∃ k, bindArgs (PySem.W.fnOf cf.name cf.name cf.params cf.stmts cf.scope (.ref T) kV doc pm an cdv ct) ⟨us, []⟩ = seqItems? (.ref T) >>= k ∧ k (some its.toArray) = pure (cf.ps.zip (us ++ its.drop j))) : BindOk cf := by
  intro K adr fd F b hb
  obtain ⟨j, e1, e2, e3⟩ := h b hb
  have l : (cf.dfl.map dvV).length = cf.dfl.length := List.length_map ..
  obtain ⟨ds, d1, d2⟩ := F.binds1 (ps := cf.ps) b.1 j (by intro z; exact h0 (List.map_eq_nil_iff.mp z)) (by rw [l]; exact e2) (fun T kV doc pm an cdv ct us its hu hi => e3 T kV doc pm an cdv ct us its hu (by rw [hi, l]))
  refine ⟨_, ds, d1, d2, fun p F => ?_⟩
  rw [e1, ← List.map_drop]
  exact rels_flat (all_drop hf j)
theorem factsB {g : Gi} {w : World} {K : PySem.W.Frag} {h : Heap} {mg : Str → Option Value} (X : K.In h) (G : h.Ns mainGlobals mg) (c : He.SaysX g.fa g.fn [] [] g.ex w h K) (hb : ∀ cf ∈ g.fns, BindOk cf) : FactsB g (g.ca K) K mg := by
  have cd : He.SaysD g.fa g.fn K := c.t.d
  have fact : ∀ f ∈ g.fa, f.ok K = true := fun f hf => cd.facts hf
  refine ⟨fun x hx => ?_, fun p hp => ?_, fun p hp => ?_, fun p hp => ?_, fun k x hk => ?_, fun f cf hf => ?_⟩
  · exact He.free_ok X G (fact (.free x) (List.mem_append_right _ (List.mem_append_left _ (List.mem_map_of_mem hx))))
  · obtain ⟨t, e⟩ := He.str_ok X G (fact (.str p.1 p.2) (List.mem_append_right _ (List.mem_append_right _ (List.mem_append_left _ (List.mem_map_of_mem (f := fun p : Str × Str => He.Fa.str p.1 p.2) hp)))))
    exact ⟨_, e, _, rfl⟩
  · obtain ⟨t, e⟩ := He.int_ok X G (fact (.int p.1 p.2) (List.mem_append_right _ (List.mem_append_right _ (List.mem_append_right _ (List.mem_append_left _ (List.mem_map_of_mem (f := fun p : Str × Int => He.Fa.int p.1 p.2) hp))))))
    exact ⟨_, e, _, rfl⟩
  · have hx := List.all_eq_true.mp c.more p hp
    split at hx
    · rename_i u hu
      obtain ⟨v, q1, q2⟩ := topB_ok _ _ hx
      exact ⟨v, u, PySem.W.mg_of X G hu, q1, q2⟩
    · cases hx
  · have hm : x ∈ g.excs := List.mem_of_getElem? hk
    have e : g.ca K k = He.ga K x := by unfold Gi.ca; rw [List.getD_eq_getElem?_getD, hk]; rfl
    have h1 := He.glo_ok X G (fact (.glo x) (List.mem_append_right _ (List.mem_append_right _ (List.mem_append_right _ (List.mem_append_right _ (List.mem_append_left _ (List.mem_map_of_mem hm)))))))
    obtain ⟨h2, h3, h4, h5⟩ := He.exc_ok (fact (.exc x) (List.mem_append_right _ (List.mem_append_right _ (List.mem_append_right _ (List.mem_append_right _ (List.mem_append_right _ (List.mem_map_of_mem hm)))))))
    rw [e]
    exact ⟨h1, h3, h2, h4, h5⟩
  · have hm : cf ∈ g.fns := List.mem_of_getElem? hf
    obtain ⟨fd, F⟩ := cd.defs (d := cf.dd) (List.mem_map_of_mem hm)
    have h1 := He.glo_ok X G (fact (.glo cf.name) (List.mem_append_left _ (List.mem_map_of_mem (f := fun cf : CF => He.Fa.glo cf.name) hm)))
    have F : FunD K cf.name cf.name cf.params cf.stmts cf.scope (cf.dfl.map dvV) [] (He.ga K cf.name) fd := by
      have e : cf.dd.dvs K = cf.dfl.map dvV := by
        show ((cf.dfl.map dvOf).map (He.Dv.v K)) = _
        rw [List.map_map]
        exact List.map_congr_left fun d _ => dv_eq d
      rw [← e]
      exact F
    exact ⟨_, fd, F, h1, hb cf hm K _ fd F⟩
theorem fn_calm {P : Program} {w : World} {K : PySem.W.Frag} {mg : Str → Option Value} {base : Heap} {k : Nat} {f : Addr} {fd : FuncData} {ps : List Str} {sp : Sp} (F : FnOk P w K mg base (L2.CX P w) k f fd ps sp) :
    FnOk P w K mg base CX0 k f fd ps (fun vs H Q _ => sp vs H Q fun _ _ _ => False) := by
  refine ⟨fun vs H Q E h => F.len vs H Q _ h, fun A outer s H args us vs Q E hr he hb hv hs => ?_⟩
  refine codeAny_mono (F.run A outer s H args us vs Q _ hr he hb hv hs) fun r s' h => ?_
  cases r with
  | error e => obtain ⟨_, _, _, _, _, _, _, _, _, _, _, _, z⟩ := h; exact z.elim
  | ok fl => cases fl <;> exact h
/-- the law: what it answers, by the core -/
theorem law_end {l : PySem.W.OpenLaw} {g : Gi} {k f : Nat} {cf : CF} {q : Program} {loose : List Str} {XP : (Str → Option Value) → Heap → Prop} {d : DefRec} {x : Str} {n : Nat} {m : Nat}
    (hn : l.most = some n) (hn2 : n ≤ sizeLine) (hdf : d.params.defaults = []) (hr : Room k callerA) (hf : g.fns[f]? = some cf) (hps : cf.ps = [x]) (hname : d.name = cf.name) (hbn : (1, []) ∈ cf.binds)
    (hc : chkAll g = true) (hb : ∀ cf ∈ g.fns, BindOk cf) (hl : ∀ ns : List Int, ns.length ≤ n → ∃ M, callN g.tab k f [.scr ns] [] = some (.ok (.bl true) M))
    (hbA : ∀ (K : PySem.W.Frag) (adr : Addr) (fd : FuncData), FunD K cf.name cf.name cf.params cf.stmts cf.scope (cf.dfl.map dvV) [] adr fd → ∀ (s : Shared) (u : Value), BindsTo s fd ⟨[u], []⟩ [(x, u)]) :
    PySem.W.WalkO q loose XP (He.hookX m g.fa g.fn [] [] g.ex).says l.row.toRowW d [] (fun f vs => PySem.call f vs) := by
  refine L2.walk_ofE (l := l) (n := n) (k := k) (x := x) (CX := CX0) hn hn2 hdf hr ?_ (fun _ _ _ _ z => z)
  intro w mg fa h Y G hmg
  obtain ⟨K, KX, c⟩ := Y
  have B := factsB KX G c hb
  refine ⟨K, ?_⟩
  have key : ∀ base : Heap, Facts g (g.ca K) k l.prog w K mg base := fun base => facts_all hc B k
  obtain ⟨adr, fd, F, q1, q2⟩ := B.fn f cf hf
  rw [hname] at hmg
  cases hmg.symm.trans q1
  refine ⟨fd, fun vs H Q _ => spF K (g.ca K) (callN g.tab k) f vs H Q fun _ _ _ => False, KX, hbA K _ fd F, fun H a ns hns hO hS => ?_, fun base kb nb => ?_⟩
  · obtain ⟨M, hM⟩ := hl ns hns
    refine ⟨fun _ => none, H, [], [.scr ns], _, ⟨fun _ _ h => h, fun n => ⟨fun h => absurd h (Nat.not_lt_zero _), fun ⟨_, h⟩ => (nomatch h)⟩, fun _ _ _ h => (nomatch h), fun _ _ h => (nomatch h), fun _ _ _ h => (nomatch h)⟩, .cons (.scr hS) .nil, hM, fun p' F' H' v st rm rl => ?_⟩
    cases rl
    rfl
  · obtain ⟨adr2, fd2, G1, G2, G3, G4, G5⟩ := (key base).fn f cf hf
    rw [q1] at G2
    cases G2
    have e : fd2 = fd := by
      obtain ⟨_, _, _, _, _, _, _, _, _, _, _, l1, _⟩ := F.ex
      obtain ⟨_, _, _, _, _, _, _, _, _, _, _, l2, _⟩ := G4.ex
      rw [l1] at l2
      cases l2
      rfl
    rw [e, hps] at G1
    exact fn_calm G1
end Rf
end T_RfTop
section T_RfEv
set_option Elab.async false
set_option linter.all false
set_option maxRecDepth 100000
/-! Rf: how the evaluator is used in plain Lean -/
namespace Rf
open PySem L2
theorem turns_mono {c : Env → Mem → Res D} {b : Env → Mem → SRes} : ∀ {n : Nat} {env : Env} {M : Mem} {r : Fl × Env × Mem}, turns c b n env M = some r → turns c b (n + 1) env M = some r
  | 0, env, M, r, h => by cases h
  | n + 1, env, M, r, h => by
    unfold turns at h ⊢
    cases z : asB (c env M) with
    | none => rw [z] at h; cases h
    | some q =>
      rw [z] at h
      cases q with
      | er x M1 => exact h
      | ok t M1 =>
        cases t with
        | false => exact h
        | true =>
          have h : (match b env M1 with
            | some (.nx, e, M) => turns c b n e M
            | some (.cont, e, M) => turns c b n e M
            | some (.brk, e, M) => some (.nx, e, M)
            | r => r) = some r := h
          show (match b env M1 with
            | some (.nx, e, M) => turns c b (n + 1) e M
            | some (.cont, e, M) => turns c b (n + 1) e M
            | some (.brk, e, M) => some (.nx, e, M)
            | r => r) = some r
          cases z2 : b env M1 with
          | none => rw [z2] at h; cases h
          | some q2 =>
            rw [z2] at h
            obtain ⟨fl, e, M2⟩ := q2
            cases fl with
            | nx => exact turns_mono h
            | cont => exact turns_mono h
            | brk => exact h
            | ret d => exact h
            | exc x => exact h
theorem turns_le {c : Env → Mem → Res D} {b : Env → Mem → SRes} {n m : Nat} {env : Env} {M : Mem} {r : Fl × Env × Mem} (h : turns c b n env M = some r) (hl : n ≤ m) : turns c b m env M = some r := by
  induction hl with
  | refl => exact h
  | step _ ih => exact turns_mono ih
theorem whileS_of {c : Env → Mem → Res D} {b : Env → Mem → SRes} {n : Nat} {env : Env} {M : Mem} {r : Fl × Env × Mem} (h : turns c b n env M = some r) : whileS c b env M = some r := by
  have hx : ∃ n, (turns c b n env M).isSome = true := ⟨n, by rw [h]; rfl⟩
  unfold whileS
  rw [dif_pos hx]
  have h2 := Classical.choose_spec hx
  cases z : turns c b (Classical.choose hx) env M with
  | none => rw [z] at h2; cases h2
  | some q =>
    rcases Nat.le_total n (Classical.choose hx) with hl | hl
    · rw [turns_le h hl] at z; exact z.symm
    · rw [turns_le z hl] at h; exact h
theorem callN_at {T : Tab} {n f : Nat} {fd : Fd} {args : List D} {M : Mem} (h : T f = some fd) : callN T (n + 1) f args M = runF (callN T n) fd args M := by
  show (match T f with
    | some fd => runF (callN T n) fd args M
    | none => none) = _
  rw [h]
theorem runF_ret {cl : Calls} {fd : Fd} {args : List D} {M M' : Mem} {d : D} {e : Env} (ha : args.length = fd.arity) (h : exs cl fd.body (args.map some ++ List.replicate (fd.slots - args.length) none) M = some (.ret d, e, M')) : runF cl fd args M = leave M.length d M' := by
  unfold runF
  rw [if_pos ha, h]
theorem leave_low {n : Nat} {d : D} {M : Mem} (h : d.low n = true) : leave n d M = ok d (M.take n) := by unfold leave; rw [if_pos h]
theorem leave_same {d : D} {M : Mem} : leave M.length d M = ok d M := by
  unfold leave
  split
  · rw [List.take_length]
  · rfl
end Rf
end T_RfEv
section T_RfSimp
set_option Elab.async false
set_option linter.all false
set_option maxRecDepth 100000
/-! Rf: the evaluator's equations, for simp -/
namespace Rf
open PySem L2
section
variable {α β : Type} {cl : Calls} {env : Env} {M : Mem}
@[simp] theorem s_bind_ok {a : α} {k : α → Mem → Res β} : (ok a M).bind k = k a M := rfl
@[simp] theorem s_bind_none {k : α → Mem → Res β} : Res.bind (none : Res α) k = none := rfl
@[simp] theorem s_bind_er {x : Exn} {k : α → Mem → Res β} : Res.bind (some (R.er x M) : Res α) k = some (R.er x M) := rfl
@[simp] theorem s_asB {b : Bool} : asB (ok (.bl b) M) = ok b M := rfl
@[simp] theorem s_asB_er {x : Exn} : asB (some (R.er x M)) = some (R.er x M) := rfl
@[simp] theorem s_lift {a : α} : lift (some a) M = ok a M := rfl
@[simp] theorem s_to_ok {a : α} {k : α → Mem → SRes} : (ok a M).to env k = k a M := rfl
@[simp] theorem s_to_er {x : Exn} {k : α → Mem → SRes} : Res.to (some (R.er x M) : Res α) env k = some (Fl.exc x, env, M) := rfl
@[simp] theorem s_get0 {d : D} : getV (some d :: env) 0 M = ok d M := rfl
@[simp] theorem s_getS {x : Option D} {i : Nat} : getV (x :: env) (i + 1) M = getV env i M := rfl
@[simp] theorem ev_var {i : Nat} : ev cl (.var i) env M = getV env i M := rfl
@[simp] theorem ev_con {d : D} : ev cl (.con d) env M = ok d M := rfl
@[simp] theorem ev_bin {op : Op} {a b : CE} : ev cl (.bin op a b) env M = (ev cl a env M).bind fun x M => (ev cl b env M).bind fun y M => lift (eOp M op x y) M := rfl
@[simp] theorem ev_neg {a : CE} : ev cl (.neg a) env M = (ev cl a env M).bind fun x M => negI x M := rfl
@[simp] theorem ev_cmp {op : Co} {a b : CE} : ev cl (.cmp op a b) env M = (ev cl a env M).bind fun x M => (ev cl b env M).bind fun y M => lift ((eCo op x y).map .bl) M := rfl
@[simp] theorem ev_isN {a : CE} : ev cl (.isN a) env M = (ev cl a env M).bind fun x M => ok (.bl (isNon x)) M := rfl
@[simp] theorem ev_notN {a : CE} : ev cl (.notN a) env M = (ev cl a env M).bind fun x M => ok (.bl (!isNon x)) M := rfl
@[simp] theorem ev_chain {p q : Co} {a b c : CE} : ev cl (.chain p q a b c) env M = (ev cl a env M).bind fun x M => (ev cl b env M).bind fun y M => (lift (eCo p x y) M).bind fun t M => if t then (ev cl c env M).bind fun z M => lift ((eCo q y z).map .bl) M else ok (.bl false) M := rfl
@[simp] theorem ev_and {a b : CE} : ev cl (.and a b) env M = (asB (ev cl a env M)).bind fun t M => if t then ev cl b env M else ok (.bl false) M := rfl
@[simp] theorem ev_or {a b : CE} : ev cl (.or a b) env M = (asB (ev cl a env M)).bind fun t M => if t then ok (.bl true) M else ev cl b env M := rfl
@[simp] theorem ev_not {a : CE} : ev cl (.not a) env M = (asB (ev cl a env M)).bind fun t M => ok (.bl (!t)) M := rfl
@[simp] theorem ev_notV {a : CE} : ev cl (.notV a) env M = (ev cl a env M).bind fun x M => lift ((notD x).map .bl) M := rfl
@[simp] theorem ev_ite {c a b : CE} : ev cl (.ite c a b) env M = (asB (ev cl c env M)).bind fun t M => if t then ev cl a env M else ev cl b env M := rfl
@[simp] theorem ev_tup {es : CEs} : ev cl (.tup es) env M = (evs cl es env M).bind fun xs M => if xs.length ≤ sizeLine then ok (.tup xs) M else none := rfl
@[simp] theorem ev_lst {es : CEs} : ev cl (.lst es) env M = (evs cl es env M).bind fun xs M => if xs.length ≤ sizeLine then ok (.lst xs) M else none := rfl
@[simp] theorem ev_lstM {es : CEs} : ev cl (.lstM es) env M = (evs cl es env M).bind fun xs M => if xs.length ≤ sizeLine ∧ D.lows 0 xs = true then ok (.cell M.length) (M ++ [.lst xs]) else none := rfl
@[simp] theorem ev_idx {a i : CE} : ev cl (.idx a i) env M = (ev cl a env M).bind fun x M => (ev cl i env M).bind fun y M => lift (eIdx M x y) M := rfl
@[simp] theorem ev_slc {a : CE} {lo hi : CO} : ev cl (.slc a lo hi) env M = (ev cl a env M).bind fun x M => (evO cl lo env M).bind fun l M => (evO cl hi env M).bind fun u M => lift (eSlc x l u) M := rfl
@[simp] theorem ev_rev {a : CE} : ev cl (.rev a) env M = (ev cl a env M).bind fun x M => lift (eRev x) M := rfl
@[simp] theorem ev_call {f : Nat} {es : CEs} {more : List D} : ev cl (.call f es more) env M = (evs cl es env M).bind fun xs M => cl f (xs ++ more) M := rfl
@[simp] theorem ev_bi {b : Bi} {es : CEs} : ev cl (.bi b es) env M = (evs cl es env M).bind fun xs M => lift (eBi M b xs) M := rfl
@[simp] theorem ev_isi {a : CE} {t : Ty} : ev cl (.isi a t) env M = (ev cl a env M).bind fun x M => lift ((isTy t x).map .bl) M := rfl
@[simp] theorem evs_nil : evs cl .nil env M = ok [] M := rfl
@[simp] theorem evs_cons {e : CE} {es : CEs} : evs cl (.cons e es) env M = (ev cl e env M).bind fun x M => (evs cl es env M).bind fun xs M => ok (x :: xs) M := rfl
@[simp] theorem evO_no : evO cl .no env M = ok none M := rfl
@[simp] theorem evO_at {e : CE} : evO cl (.at e) env M = (ev cl e env M).bind fun x M => someI x M := rfl
@[simp] theorem s_someI {i : Int} : someI (.int i) M = ok (some i) M := rfl
/-- a statement, then the others -/
def seqS (r : SRes) (k : Env → Mem → SRes) : SRes := match r with
  | some (.nx, env, M) => k env M
  | r => r
variable {k : Env → Mem → SRes} {e : Env}
@[simp] theorem seq_nx : seqS (some (.nx, e, M)) k = k e M := rfl
@[simp] theorem seq_ret {d : D} : seqS (some (.ret d, e, M)) k = some (.ret d, e, M) := rfl
@[simp] theorem seq_exc {x : Exn} : seqS (some (.exc x, e, M)) k = some (.exc x, e, M) := rfl
@[simp] theorem seq_brk : seqS (some (.brk, e, M)) k = some (.brk, e, M) := rfl
@[simp] theorem seq_cont : seqS (some (.cont, e, M)) k = some (.cont, e, M) := rfl
@[simp] theorem exs_nil : exs cl [] env M = some (.nx, env, M) := rfl
@[simp] theorem exs_cons {s : CS} {r : List CS} : exs cl (s :: r) env M = seqS (ex cl s env M) (exs cl r) := rfl
@[simp] theorem ex_asg {tg : Tg} {c : CE} : ex cl (.asg tg c) env M = (ev cl c env M).to env fun x M => match asT tg x env with
  | some env => some (.nx, env, M)
  | none => none := rfl
@[simp] theorem ex_ret {c : CE} : ex cl (.ret c) env M = (ev cl c env M).to env fun x M => some (.ret x, env, M) := rfl
@[simp] theorem ex_retN : ex cl .retN env M = some (.ret .non, env, M) := rfl
@[simp] theorem ex_ite {c : CE} {a b : List CS} : ex cl (.ite c a b) env M = (asB (ev cl c env M)).to env fun t M => if t then exs cl a env M else exs cl b env M := rfl
@[simp] theorem ex_whl {c : CE} {b : List CS} : ex cl (.whl c b) env M = whileS (ev cl c) (exs cl b) env M := rfl
@[simp] theorem ex_for {tg : Tg} {it : CI} {b : List CS} : ex cl (.for_ tg it b) env M = (evI cl it env M).to env fun xs M => forS tg (exs cl b) xs env M := rfl
@[simp] theorem ex_rais {c : Nat} : ex cl (.rais c) env M = some (.exc ⟨c, none⟩, env, M) := rfl
@[simp] theorem ex_ex {c : CE} : ex cl (.ex c) env M = (ev cl c env M).to env fun _ M => some (.nx, env, M) := rfl
@[simp] theorem asT_nm {i : Nat} {d : D} : asT (.nm i) d env = some (env.set i (some d)) := rfl
@[simp] theorem asT_tp {ts : TgL} {ds : List D} : asT (.tp ts) (.tup ds) env = asTs ts ds env := rfl
@[simp] theorem asTs_nil : asTs .nil [] env = some env := rfl
@[simp] theorem asTs_cons {t : Tg} {ts : TgL} {d : D} {ds : List D} : asTs (.cons t ts) (d :: ds) env = match asT t d env with
  | some env' => asTs ts ds env'
  | none => none := rfl
end
theorem line1 (n : Nat) (h : n ≤ 1000) : n ≤ sizeLine := Nat.le_trans h (by rw [sizeLine_eq]; decide)
/-- a call by its body's return -/
theorem call_ret {T : Tab} {n f : Nat} {fd : Fd} {args : List D} {M M' : Mem} {d : D} {e : Env} (h : T f = some fd) (ha : args.length = fd.arity)
    (hb : exs (callN T n) fd.body (args.map some ++ List.replicate (fd.slots - args.length) none) M = some (.ret d, e, M')) : callN T (n + 1) f args M = leave M.length d M' := by
  rw [callN_at h, runF_ret ha hb]
theorem call_pure {T : Tab} {n f : Nat} {fd : Fd} {args : List D} {M : Mem} {d : D} {e : Env} (h : T f = some fd) (ha : args.length = fd.arity)
    (hb : exs (callN T n) fd.body (args.map some ++ List.replicate (fd.slots - args.length) none) M = some (.ret d, e, M)) : callN T (n + 1) f args M = ok d M := by
  rw [call_ret h ha hb, leave_same]
end Rf
end T_RfSimp
section T_PlainD
set_option Elab.async false
set_option linter.all false
set_option maxRecDepth 100000
set_option maxHeartbeats 1000000
/-! Rf: plain data that is bounded (in plain Lean) -/
namespace Rf
open PySem L2
mutual
def pyOf : D → PyData
  | .non => .none
  | .bl b => .bool b
  | .int i => .int i
  | .str s => .str s
  | .tup xs => .tuple (pyOfs xs)
  | .lst xs => .list (pyOfs xs)
  | _ => .none
def pyOfs : List D → List PyData
  | [] => []
  | d :: ds => pyOf d :: pyOfs ds
end
/-- plain data: of depth n at most, sizes by k -/
def okD (k : Nat) : Nat → D → Bool
  | _, .non => true
  | _, .bl _ => true
  | _, .int i => decide (i.natAbs ≤ 10 ^ 40 + 20 * k)
  | _, .str s => decide (s.length ≤ 20 + k) && s.cps.all (fun c => decide (c < 128))
  | n + 1, .tup xs => decide (xs.length ≤ 20 + k) && xs.all (okD k n)
  | n + 1, .lst xs => decide (xs.length ≤ 20 + k) && xs.all (okD k n)
  | _, _ => false
section
variable {k n : Nat}
theorem okD_int {i : Int} (h : okD k n (.int i) = true) : i.natAbs ≤ 10 ^ 40 + 20 * k := by
  cases n <;> exact of_decide_eq_true h
theorem okD_tup {xs : List D} (h : okD k n (.tup xs) = true) : ∃ m, n = m + 1 ∧ xs.length ≤ 20 + k ∧ ∀ x ∈ xs, okD k m x = true := by
  cases n with
  | zero => cases h
  | succ m =>
    have h : (decide (xs.length ≤ 20 + k) && xs.all (okD k m)) = true := h
    rw [Bool.and_eq_true] at h
    exact ⟨m, rfl, of_decide_eq_true h.1, List.all_eq_true.mp h.2⟩
theorem okD_lst {xs : List D} (h : okD k n (.lst xs) = true) : ∃ m, n = m + 1 ∧ xs.length ≤ 20 + k ∧ ∀ x ∈ xs, okD k m x = true := by
  cases n with
  | zero => cases h
  | succ m =>
    have h : (decide (xs.length ≤ 20 + k) && xs.all (okD k m)) = true := h
    rw [Bool.and_eq_true] at h
    exact ⟨m, rfl, of_decide_eq_true h.1, List.all_eq_true.mp h.2⟩
theorem okD_tupI {xs : List D} (h1 : xs.length ≤ 20 + k) (h2 : ∀ x ∈ xs, okD k n x = true) : okD k (n + 1) (.tup xs) = true := by
  show (decide (xs.length ≤ 20 + k) && xs.all (okD k n)) = true
  rw [decide_eq_true h1, Bool.true_and]
  exact List.all_eq_true.mpr h2
theorem okD_lstI {xs : List D} (h1 : xs.length ≤ 20 + k) (h2 : ∀ x ∈ xs, okD k n x = true) : okD k (n + 1) (.lst xs) = true := by
  show (decide (xs.length ≤ 20 + k) && xs.all (okD k n)) = true
  rw [decide_eq_true h1, Bool.true_and]
  exact List.all_eq_true.mpr h2
theorem okD_mono {k' : Nat} (hk : k ≤ k') : ∀ {n n' : Nat} {d : D}, n ≤ n' → okD k n d = true → okD k' n' d = true
  | n, n', .non, _, _ => by cases n' <;> rfl
  | n, n', .bl _, _, _ => by cases n' <;> rfl
  | n, n', .int i, _, h => by
    have h1 := okD_int h
    have : i.natAbs ≤ 10 ^ 40 + 20 * k' := by omega
    cases n' <;> exact decide_eq_true this
  | n, n', .str s, _, h => by
    have h : (decide (s.length ≤ 20 + k) && s.cps.all (fun c => decide (c < 128))) = true := by cases n <;> exact h
    rw [Bool.and_eq_true] at h
    have h1 := of_decide_eq_true h.1
    have : (decide (s.length ≤ 20 + k') && s.cps.all (fun c => decide (c < 128))) = true := by
      rw [h.2, decide_eq_true (by omega)]; rfl
    cases n' <;> exact this
  | n, n', .tup xs, hn, h => by
    obtain ⟨m, rfl, h1, h2⟩ := okD_tup h
    obtain ⟨m', rfl⟩ : ∃ m', n' = m' + 1 := ⟨n' - 1, by omega⟩
    exact okD_tupI (by omega) fun x hx => okD_mono hk (by omega) (h2 x hx)
  | n, n', .lst xs, hn, h => by
    obtain ⟨m, rfl, h1, h2⟩ := okD_lst h
    obtain ⟨m', rfl⟩ : ∃ m', n' = m' + 1 := ⟨n' - 1, by omega⟩
    exact okD_lstI (by omega) fun x hx => okD_mono hk (by omega) (h2 x hx)
  | n, n', .dic _ _, _, h => by cases n <;> cases h
  | n, n', .cell _, _, h => by cases n <;> cases h
  | n, n', .scr _, _, h => by cases n <;> cases h
end
section
variable {k n : Nat}
theorem toPys_of : ∀ {xs : List D}, (∀ x ∈ xs, toPy x = some (pyOf x)) → toPys xs = some (pyOfs xs)
  | [], _ => rfl
  | x :: xs, h => by
    show (match toPy x, toPys xs with
      | some x, some xs => some (x :: xs)
      | _, _ => none) = _
    rw [h x (List.mem_cons_self ..), toPys_of fun y hy => h y (List.mem_cons_of_mem _ hy)]
    rfl
theorem canAll_of : ∀ {xs : List D}, (∀ x ∈ xs, (pyOf x).canLay0 = true) → PyData.canLayAll0 (pyOfs xs) = true
  | [], _ => rfl
  | x :: xs, h => by
    show (PyData.canLay0 (pyOf x) && PyData.canLayAll0 (pyOfs xs)) = true
    rw [h x (List.mem_cons_self ..), canAll_of fun y hy => h y (List.mem_cons_of_mem _ hy)]
    rfl
theorem okD_py : ∀ {n : Nat} {d : D}, okD k n d = true → toPy d = some (pyOf d) ∧ (pyOf d).canLay0 = true
  | n, .non, _ => ⟨rfl, rfl⟩
  | n, .bl _, _ => ⟨rfl, rfl⟩
  | n, .int _, _ => ⟨rfl, rfl⟩
  | n, .str s, h => ⟨rfl, by
    have h : (decide (s.length ≤ 20 + k) && s.cps.all (fun c => decide (c < 128))) = true := by cases n <;> exact h
    rw [Bool.and_eq_true] at h
    show s.cps.all (fun c => decide (c < 0x110000)) = true
    rw [Array.all_eq_true] at h ⊢
    intro i hi
    have := of_decide_eq_true (h.2 i hi)
    exact decide_eq_true (by omega)⟩
  | n, .tup xs, h => by
    obtain ⟨m, rfl, h1, h2⟩ := okD_tup h
    refine ⟨?_, canAll_of fun x hx => (okD_py (h2 x hx)).2⟩
    show (toPys xs).map PyData.tuple = _
    rw [toPys_of fun x hx => (okD_py (h2 x hx)).1]; rfl
  | n, .lst xs, h => by
    obtain ⟨m, rfl, h1, h2⟩ := okD_lst h
    refine ⟨?_, canAll_of fun x hx => (okD_py (h2 x hx)).2⟩
    show (toPys xs).map PyData.list = _
    rw [toPys_of fun x hx => (okD_py (h2 x hx)).1]; rfl
  | n, .dic _ _, h => by cases n <;> cases h
  | n, .cell _, h => by cases n <;> cases h
  | n, .scr _, h => by cases n <;> cases h
end
section
variable {k n : Nat}
theorem depthAll_of {m : Nat} : ∀ {xs : List D}, (∀ x ∈ xs, (pyOf x).depth ≤ m) → PyData.depthAll (pyOfs xs) ≤ m
  | [], _ => Nat.zero_le _
  | x :: xs, h => by
    show max (pyOf x).depth (PyData.depthAll (pyOfs xs)) ≤ m
    exact Nat.max_le.mpr ⟨h x (List.mem_cons_self ..), depthAll_of fun y hy => h y (List.mem_cons_of_mem _ hy)⟩
theorem okD_depth : ∀ {n : Nat} {d : D}, okD k n d = true → (pyOf d).depth ≤ n
  | n, .non, _ => Nat.zero_le _
  | n, .bl _, _ => Nat.zero_le _
  | n, .int _, _ => Nat.zero_le _
  | n, .str s, h => Nat.zero_le _
  | n, .tup xs, h => by
    obtain ⟨m, rfl, h1, h2⟩ := okD_tup h
    exact Nat.succ_le_succ (depthAll_of fun x hx => okD_depth (h2 x hx))
  | n, .lst xs, h => by
    obtain ⟨m, rfl, h1, h2⟩ := okD_lst h
    exact Nat.succ_le_succ (depthAll_of fun x hx => okD_depth (h2 x hx))
  | n, .dic _ _, h => by cases n <;> cases h
  | n, .cell _, h => by cases n <;> cases h
  | n, .scr _, h => by cases n <;> cases h
/-- data that may be compared -/
structure Cmp (d : D) : Prop where
  py : toPy d = some (pyOf d)
  sh : SeqAt.shaped (pyOf d) = true
theorem okD_cmp {d : D} (h : okD k n d = true) (hn : n ≤ 60) : Cmp d := by
  refine ⟨(okD_py h).1, ?_⟩
  have h1 := okD_depth h
  show ((pyOf d).canLay0 && decide ((pyOf d).depth ≤ 64)) = true
  rw [(okD_py h).2, decide_eq_true (by omega)]
  rfl
theorem eEq_of {a b : D} (ha : Cmp a) (hb : Cmp b) : eEq a b = some (PyData.eqv (pyOf a) (pyOf b)) := by
  show (match toPy a, toPy b with
    | some x, some y => if SeqAt.shaped x && SeqAt.shaped y then some (PyData.eqv x y) else none
    | _, _ => none) = _
  rw [ha.py, hb.py]
  show (if (SeqAt.shaped (pyOf a) && SeqAt.shaped (pyOf b)) = true then _ else _) = _
  rw [ha.sh, hb.sh]
  rfl
theorem eEq_int {a b : Int} : eEq (.int a) (.int b) = some (decide (a = b)) := by
  rw [eEq_of ⟨rfl, rfl⟩ ⟨rfl, rfl⟩]
  show some (a == b) = _
  by_cases h : a = b <;> simp [h]
theorem cmp_str {s : Str} (h : s.cps.all (fun c => decide (c < 0x110000)) = true) : Cmp (.str s) := ⟨rfl, by
  show (s.cps.all (fun c => decide (c < 0x110000)) && true) = true
  rw [h]; rfl⟩
theorem eEq_str {a b : Str} (ha : Cmp (.str a)) (hb : Cmp (.str b)) : eEq (.str a) (.str b) = some (decide (a = b)) := by
  rw [eEq_of ha hb]
  show some (a == b) = _
  by_cases h : a = b <;> simp [h]
/-- a list against the empty one -/
theorem eEq_nil {xs : List D} (h : Cmp (.lst xs)) : eEq (.lst xs) (.lst []) = some xs.isEmpty := by
  rw [eEq_of h ⟨rfl, rfl⟩]
  cases xs <;> rfl
theorem eEq_unit {d : D} (h : Cmp d) : eEq d (.tup []) = some (match d with | .tup [] => true | _ => false) := by
  rw [eEq_of h ⟨rfl, rfl⟩]
  cases d <;> first | rfl | (rename_i xs; cases xs <;> rfl)
end
/-! ### comprehensions -/
section
variable {cl : Calls} {env : Env} {M : Mem}
theorem lcL_filter {g : D → Mem → Res (Option D)} (p : D → Bool) : ∀ (xs acc : List D), (∀ x ∈ xs, g x M = ok (if p x = true then some x else none) M) → lcL g xs M acc = ok (acc ++ xs.filter p) M
  | [], acc, _ => by rw [List.filter_nil, List.append_nil]; rfl
  | x :: xs, acc, h => by
    unfold lcL
    rw [h x (List.mem_cons_self ..)]
    cases hp : p x with
    | true =>
      rw [if_pos rfl, List.filter_cons_of_pos hp]
      show lcL g xs M (acc ++ [x]) = _
      rw [lcL_filter p xs _ fun y hy => h y (List.mem_cons_of_mem _ hy), List.append_assoc]; rfl
    | false =>
      rw [if_neg Bool.false_ne_true, List.filter_cons_of_neg (by rw [hp]; exact Bool.false_ne_true)]
      show lcL g xs M acc = _
      exact lcL_filter p xs _ fun y hy => h y (List.mem_cons_of_mem _ hy)
theorem lcL_map {g : D → Mem → Res (Option D)} (f : D → D) : ∀ (xs acc : List D), (∀ x ∈ xs, g x M = ok (some (f x)) M) → lcL g xs M acc = ok (acc ++ xs.map f) M
  | [], acc, _ => by rw [List.map_nil, List.append_nil]; rfl
  | x :: xs, acc, h => by
    unfold lcL
    rw [h x (List.mem_cons_self ..)]
    show lcL g xs M (acc ++ [f x]) = _
    rw [lcL_map f xs _ fun y hy => h y (List.mem_cons_of_mem _ hy), List.append_assoc]; rfl
theorem ev_lcIf_of {e : CE} {i : Nat} {it : CI} {c : CE} {xs : List D} (p : D → Bool) (hi : evI cl it env M = ok xs M) (hl : xs.length ≤ sizeLine)
    (hp : ∀ x ∈ xs, ev cl c (env.set i (some x)) M = ok (.bl (p x)) M) (he : ∀ x ∈ xs, p x = true → ev cl e (env.set i (some x)) M = ok x M) : ev cl (.lcIf e (.nm i) it c) env M = ok (.lst (xs.filter p)) M := by
  unfold ev
  rw [hi]
  show (lcL _ xs M []).bind _ = _
  rw [lcL_filter p]
  · show (if (List.nil ++ xs.filter p).length ≤ sizeLine then ok (D.lst (List.nil ++ xs.filter p)) M else none) = _
    rw [List.nil_append, if_pos (Nat.le_trans (List.length_filter_le ..) hl)]
  · intro x hx
    show (asB (ev cl c ((env.set i none).set i (some x)) M)).bind _ = _
    rw [List.set_set, hp x hx]
    show (if p x = true then (ev cl e ((env.set i none).set i (some x)) M).bind _ else ok none M) = _
    cases z : p x with
    | true => rw [if_pos rfl, if_pos rfl, List.set_set, he x hx z]; rfl
    | false => rw [if_neg Bool.false_ne_true, if_neg Bool.false_ne_true]
theorem ev_lc_of {e : CE} {i : Nat} {it : CI} {xs : List D} (f : D → D) (hi : evI cl it env M = ok xs M) (hl : xs.length ≤ sizeLine)
    (he : ∀ x ∈ xs, ev cl e (env.set i (some x)) M = ok (f x) M) : ev cl (.lc e (.nm i) it) env M = ok (.lst (xs.map f)) M := by
  unfold ev
  rw [hi]
  show (lcL _ xs M []).bind _ = _
  rw [lcL_map f]
  · show (if (List.nil ++ xs.map f).length ≤ sizeLine then ok (D.lst (List.nil ++ xs.map f)) M else none) = _
    rw [List.nil_append, if_pos (by rw [List.length_map]; exact hl)]
  · intro x hx
    show (ev cl e ((env.set i none).set i (some x)) M).bind _ = _
    rw [List.set_set, he x hx]
    rfl
theorem bools_map (p : D → Bool) : ∀ xs : List D, bools (xs.map fun x => .bl (p x)) = some (xs.map p)
  | [] => rfl
  | x :: xs => by
    show (bools (xs.map fun x => D.bl (p x))).map _ = _
    rw [bools_map p xs]; rfl
theorem bAll_map {p : D → Bool} {xs : List D} : eBi M .all [.lst (xs.map fun x => .bl (p x))] = some (.bl (xs.all p)) := by
  show (bools (xs.map fun x => D.bl (p x))).map (fun bs => D.bl (bs.all id)) = _
  rw [bools_map, Option.map_some]
  congr 2
  rw [List.all_map]; rfl
@[simp] theorem evI_seq {e : CE} : evI cl (.seq e) env M = (ev cl e env M).bind fun x M => match x with
    | .lst xs => ok xs M
    | .tup xs => ok xs M
    | _ => none := by unfold evI; rfl
end
end Rf
end T_PlainD
section T_core
set_option Elab.async false
set_option linter.all false
set_option maxRecDepth 100000
namespace Rf
namespace KK
open PySem PySem.Spec PyProof.Rows L2
/-! ### the program's core (printed by tr.py) -/
def k_AGAIN : D := .str "again"
def k_CUT : D := .str "cut"
def k_HALF : D := .str "half"
def k_HOLD : D := .str "hold"
def k_IF : D := .str "if"
def k_INNER : D := .str "inner"
def k_JOIN : D := .str "join"
def k_MOST_PART : D := .int (1000000000000000000000000000000)
def k_NAMES : D := .tup [.str "a", .str "b", .str "c", .str "d", .str "e", .str "f"]
def k_OUTER : D := .str "outer"
def k_READ : D := .str "read"
def k_SEEN : D := .tup [.str "longer", .str "same", .str "shorter"]
def k_SPLIT : D := .str "split"
def b_common : List CS :=
  [.whl (.cmp .gt (.var 1) (.con (.int (0))))
    [.asg (.tp (.cons (.nm 0) (.cons (.nm 1) .nil))) (.tup (.cons (.var 1) (.cons (.bin .mod (.var 0) (.var 1)) .nil)))],
    .ret (.var 0)]
def b_lowest : List CS :=
  [.ite (.cmp .lt (.var 1) (.con (.int (0))))
    [.asg (.tp (.cons (.nm 0) (.cons (.nm 1) .nil))) (.tup (.cons (.bin .sub (.con (.int (0))) (.var 0)) (.cons (.bin .sub (.con (.int (0))) (.var 1)) .nil)))]
    [],
    .asg (.nm 2) (.call 0 (.cons (.bi .abs (.cons (.var 0) .nil)) (.cons (.var 1) .nil)) []),
    .ret (.tup (.cons (.bin .fdiv (.var 0) (.var 2)) (.cons (.bin .fdiv (.var 1) (.var 2)) .nil)))]
def b_is_less : List CS :=
  [.ret (.cmp .lt (.bin .mul (.idx (.var 0) (.con (.int (0)))) (.idx (.var 1) (.con (.int (1))))) (.bin .mul (.idx (.var 1) (.con (.int (0)))) (.idx (.var 0) (.con (.int (1))))))]
def b_is_integer : List CS :=
  [.ret (.and (.isi (.var 0) .int) (.not (.isi (.var 0) .bool)))]
def b_is_from : List CS :=
  [.ret (.and (.call 3 (.cons (.var 0) .nil) []) (.chain .le .le (.var 1) (.var 0) (.var 2)))]
def b_is_tuple_of : List CS :=
  [.ret (.and (.isi (.var 0) .tuple) (.cmp .eq (.bi .len (.cons (.var 0) .nil)) (.var 1)))]
def b_is_word : List CS :=
  [.ret (.and (.isi (.var 0) .str) (.cmp .inn (.var 0) (.var 1)))]
def b_is_any_fraction : List CS :=
  [.ite (.or (.not (.call 5 (.cons (.var 0) (.cons (.con (.int (2))) .nil)) [])) (.or (.not (.call 3 (.cons (.idx (.var 0) (.con (.int (0)))) .nil) [])) (.or (.not (.call 3 (.cons (.idx (.var 0) (.con (.int (1)))) .nil) [])) (.cmp .lt (.idx (.var 0) (.con (.int (1)))) (.con (.int (1)))))))
    [.ret (.con (.bl false))]
    [],
    .ret (.cmp .eq (.call 1 (.cons (.idx (.var 0) (.con (.int (0)))) (.cons (.idx (.var 0) (.con (.int (1)))) .nil)) []) (.var 0))]
def b_is_fraction : List CS :=
  [.ret (.and (.call 7 (.cons (.var 0) .nil) []) (.and (.cmp .le (.bi .abs (.cons (.idx (.var 0) (.con (.int (0)))) .nil)) (.var 1)) (.cmp .le (.idx (.var 0) (.con (.int (1)))) (.var 1))))]
def b_is_between : List CS :=
  [.ret (.and (.not (.call 2 (.cons (.var 0) (.cons (.var 1) .nil)) [])) (.not (.call 2 (.cons (.var 2) (.cons (.var 0) .nil)) [])))]
def b_are_bounds : List CS :=
  [.ite (.or (.not (.call 5 (.cons (.var 0) (.cons (.con (.int (2))) .nil)) [])) (.or (.not (.call 8 (.cons (.idx (.var 0) (.con (.int (0)))) (.cons (.con k_MOST_PART) .nil)) [])) (.not (.call 8 (.cons (.idx (.var 0) (.con (.int (1)))) (.cons (.con k_MOST_PART) .nil)) []))))
    [.ret (.con (.bl false))]
    [],
    .ite (.or (.cmp .gt (.idx (.idx (.var 0) (.con (.int (0)))) (.con (.int (1)))) (.con (.int (100)))) (.or (.cmp .gt (.idx (.idx (.var 0) (.con (.int (1)))) (.con (.int (1)))) (.con (.int (100)))) (.call 2 (.cons (.idx (.var 0) (.con (.int (1)))) (.cons (.idx (.var 0) (.con (.int (0)))) .nil)) [])))
    [.ret (.con (.bl false))]
    [],
    .ret (.and (.not (.call 2 (.cons (.idx (.var 0) (.con (.int (0)))) (.cons (.var 1) .nil)) [])) (.not (.call 2 (.cons (.var 2) (.cons (.idx (.var 0) (.con (.int (1)))) .nil)) [])))]
def b_is_tape : List CS :=
  [.ret (.and (.call 5 (.cons (.var 0) (.cons (.con (.int (2))) .nil)) []) (.and (.call 10 (.cons (.idx (.var 0) (.con (.int (0)))) (.cons (.tup (.cons (.con (.int (0))) (.cons (.con (.int (1))) .nil))) (.cons (.tup (.cons (.con (.int (2))) (.cons (.con (.int (1))) .nil))) .nil))) []) (.call 10 (.cons (.idx (.var 0) (.con (.int (1)))) (.cons (.tup (.cons (.con (.int (49))) (.cons (.con (.int (50))) .nil))) (.cons (.tup (.cons (.con (.int (51))) (.cons (.con (.int (50))) .nil))) .nil))) [])))]
def b_is_world : List CS :=
  [.ite (.or (.not (.call 5 (.cons (.var 0) (.cons (.con (.int (3))) .nil)) [])) (.or (.not (.isi (.idx (.var 0) (.con (.int (0)))) .tuple)) (.cmp .nin (.bi .len (.cons (.idx (.var 0) (.con (.int (0)))) .nil)) (.tup (.cons (.con (.int (1))) (.cons (.con (.int (2))) .nil))))))
    [.ret (.con (.bl false))]
    [],
    .ite (.not (.bi .all (.cons (.lc (.call 11 (.cons (.var 1) .nil) []) (.nm 1) (.seq (.idx (.var 0) (.con (.int (0)))))) .nil)))
    [.ret (.con (.bl false))]
    [],
    .ret (.and (.call 10 (.cons (.idx (.var 0) (.con (.int (1)))) (.cons (.tup (.cons (.con (.int (0))) (.cons (.con (.int (1))) .nil))) (.cons (.tup (.cons (.con (.int (1))) (.cons (.con (.int (2))) .nil))) .nil))) []) (.call 10 (.cons (.idx (.var 0) (.con (.int (2)))) (.cons (.tup (.cons (.con (.int (0))) (.cons (.con (.int (1))) .nil))) (.cons (.tup (.cons (.con (.int (1))) (.cons (.con (.int (2))) .nil))) .nil))) []))]
def b_bounds_of : List CS :=
  [.asg (.nm 1) (.lst .nil),
    .for_ (.tp (.cons (.nm 2) (.cons (.nm 3) .nil))) (.seq (.idx (.var 0) (.con (.int (0)))))
    [.asg (.nm 1) (.bin .add (.var 1) (.lst (.cons (.var 2) (.cons (.var 3) .nil))))],
    .ret (.bin .add (.var 1) (.lst (.cons (.idx (.var 0) (.con (.int (1)))) (.cons (.idx (.var 0) (.con (.int (2)))) .nil))))]
def b_names_of : List CS :=
  [.asg (.nm 1) (.lst .nil),
    .for_ (.nm 2) (.rng (.bi .len (.cons (.idx (.var 0) (.con (.int (0)))) .nil)))
    [.asg (.nm 1) (.bin .add (.var 1) (.lst (.cons (.fstr (.cons (.con (.str "lack")) (.cons (.fmt (.var 2)) .nil))) (.cons (.fstr (.cons (.con (.str "factor")) (.cons (.fmt (.var 2)) .nil))) .nil))))],
    .ret (.bin .add (.var 1) (.lst (.cons (.con (.str "pencil")) (.cons (.con (.str "saw")) .nil))))]
def b_many_of : List CS :=
  [.ret (.bin .add (.bin .mul (.con (.int (2))) (.bi .len (.cons (.idx (.var 0) (.con (.int (0)))) .nil))) (.con (.int (2))))]
def b_is_values_of : List CS :=
  [.ite (.or (.not (.call 5 (.cons (.var 1) (.cons (.call 15 (.cons (.var 0) .nil) []) .nil)) [])) (.not (.bi .all (.cons (.lc (.call 8 (.cons (.var 2) (.cons (.con k_MOST_PART) .nil)) []) (.nm 2) (.seq (.var 1))) .nil))))
    [.ret (.con (.bl false))]
    [],
    .ret (.bi .all (.cons (.lc (.call 9 (.cons (.var 2) (.cons (.var 3) (.cons (.var 4) .nil))) []) (.tp (.cons (.nm 2) (.cons (.tp (.cons (.nm 3) (.cons (.nm 4) .nil))) .nil))) (.zip (.var 1) (.call 13 (.cons (.var 0) .nil) []))) .nil))]
def b_is_name : List CS :=
  [.ret (.call 6 (.cons (.var 0) (.cons (.con k_NAMES) .nil)) [])]
def b_is_mark : List CS :=
  [.ret (.call 4 (.cons (.var 0) (.cons (.con (.int (3))) (.cons (.con (.int (20))) .nil))) [])]
def b_is_plain : List CS :=
  [.asg (.tp (.cons (.nm 2) (.cons (.nm 3) (.cons (.nm 4) .nil)))) (.tup (.cons (.idx (.var 1) (.con (.int (0)))) (.cons (.bin .sub (.bi .len (.cons (.idx (.var 0) (.con (.int (0)))) .nil)) (.con (.int (1)))) (.cons (.bi .len (.cons (.var 1) .nil)) .nil)))),
    .ite (.cmp .eq (.var 2) (.con k_CUT))
    [.ret (.and (.cmp .eq (.var 4) (.con (.int (4)))) (.and (.call 17 (.cons (.idx (.var 1) (.con (.int (1)))) .nil) []) (.and (.call 4 (.cons (.idx (.var 1) (.con (.int (2)))) (.cons (.con (.int (0))) (.cons (.var 3) .nil))) []) (.call 18 (.cons (.idx (.var 1) (.con (.int (3)))) .nil) []))))]
    [],
    .ite (.cmp .inn (.var 2) (.tup (.cons (.con k_OUTER) (.cons (.con k_INNER) .nil))))
    [.ret (.and (.cmp .eq (.var 4) (.con (.int (4)))) (.and (.call 17 (.cons (.idx (.var 1) (.con (.int (1)))) .nil) []) (.and (.call 17 (.cons (.idx (.var 1) (.con (.int (2)))) .nil) []) (.call 4 (.cons (.idx (.var 1) (.con (.int (3)))) (.cons (.con (.int (1))) (.cons (.con (.int (20))) .nil))) []))))]
    [],
    .ite (.cmp .eq (.var 2) (.con k_JOIN))
    [.ret (.and (.cmp .eq (.var 4) (.con (.int (4)))) (.bi .all (.cons (.lc (.call 17 (.cons (.var 5) .nil) []) (.nm 5) (.seq (.slc (.var 1) (.at (.con (.int (1)))) .no))) .nil)))]
    [],
    .ite (.cmp .inn (.var 2) (.tup (.cons (.con k_HALF) (.cons (.con k_HOLD) .nil))))
    [.ret (.and (.cmp .eq (.var 4) (.con (.int (3)))) (.and (.call 17 (.cons (.idx (.var 1) (.con (.int (1)))) .nil) []) (.call 17 (.cons (.idx (.var 1) (.con (.int (2)))) .nil) [])))]
    [],
    .ite (.cmp .inn (.var 2) (.tup (.cons (.con k_READ) (.cons (.con k_AGAIN) .nil))))
    [.ret (.and (.cmp .eq (.var 4) (.con (.int (3)))) (.and (.call 17 (.cons (.idx (.var 1) (.con (.int (1)))) .nil) []) (.call 4 (.cons (.idx (.var 1) (.con (.int (2)))) (.cons (.con (.int (0))) (.cons (.var 3) .nil))) [])))]
    [],
    .ite (.or (.cmp .ne (.var 2) (.con k_SPLIT)) (.or (.cmp .ne (.var 4) (.con (.int (6)))) (.not (.bi .all (.cons (.lc (.call 17 (.cons (.var 5) .nil) []) (.nm 5) (.seq (.slc (.var 1) (.at (.con (.int (1)))) (.at (.con (.int (4))))))) .nil)))))
    [.ret (.con (.bl false))]
    [],
    .ret (.and (.cmp .ne (.idx (.var 1) (.con (.int (1)))) (.idx (.var 1) (.con (.int (2))))) (.and (.call 4 (.cons (.idx (.var 1) (.con (.int (4)))) (.cons (.con (.int (0))) (.cons (.var 3) .nil))) []) (.call 18 (.cons (.idx (.var 1) (.con (.int (5)))) .nil) [])))]
def b_is_body : List CS :=
  [.ret (.and (.isi (.var 1) .tuple) (.and (.cmp .le (.bi .len (.cons (.var 1) .nil)) (.con (.int (3)))) (.bi .all (.cons (.lc (.call 21 (.cons (.var 0) (.cons (.var 2) (.cons (.con (.bl false)) .nil))) []) (.nm 2) (.seq (.var 1))) .nil))))]
def b_is_step : List CS :=
  [.ite (.or (.not (.isi (.var 1) .tuple)) (.or (.cmp .eq (.var 1) (.tup .nil)) (.not (.isi (.idx (.var 1) (.con (.int (0)))) .str))))
    [.ret (.con (.bl false))]
    [],
    .ite (.cmp .ne (.idx (.var 1) (.con (.int (0)))) (.con k_IF))
    [.ret (.call 19 (.cons (.var 0) (.cons (.var 1) .nil)) [])]
    [],
    .ite (.or (.notV (.var 2)) (.or (.cmp .ne (.bi .len (.cons (.var 1) .nil)) (.con (.int (6)))) (.or (.not (.call 17 (.cons (.idx (.var 1) (.con (.int (1)))) .nil) [])) (.not (.call 17 (.cons (.idx (.var 1) (.con (.int (2)))) .nil) [])))))
    [.ret (.con (.bl false))]
    [],
    .ret (.and (.call 6 (.cons (.idx (.var 1) (.con (.int (3)))) (.cons (.con k_SEEN) .nil)) []) (.and (.call 20 (.cons (.var 0) (.cons (.idx (.var 1) (.con (.int (4)))) .nil)) []) (.call 20 (.cons (.var 0) (.cons (.idx (.var 1) (.con (.int (5)))) .nil)) [])))]
def b_all_steps : List CS :=
  [.asg (.nm 1) (.lst .nil),
    .for_ (.nm 2) (.seq (.var 0))
    [.asg (.nm 1) (.bin .add (.var 1) (.lst (.cons (.var 2) .nil))),
    .ite (.cmp .eq (.idx (.var 2) (.con (.int (0)))) (.con k_IF))
    [.asg (.nm 1) (.bin .add (.bin .add (.var 1) (.bi .list (.cons (.idx (.var 2) (.con (.int (4)))) .nil))) (.bi .list (.cons (.idx (.var 2) (.con (.int (5)))) .nil)))]
    []],
    .ret (.var 1)]
def b_is_script_of : List CS :=
  [.ite (.or (.not (.isi (.var 1) .tuple)) (.or (.cmp .gt (.bi .len (.cons (.var 1) .nil)) (.con (.int (6)))) (.not (.bi .all (.cons (.lc (.call 21 (.cons (.var 0) (.cons (.var 2) .nil)) [.bl true]) (.nm 2) (.seq (.var 1))) .nil)))))
    [.ret (.con (.bl false))]
    [],
    .asg (.nm 3) (.lc (.idx (.var 2) (.con (.int (0)))) (.nm 2) (.seq (.call 22 (.cons (.var 1) .nil) []))),
    .ret (.and (.cmp .le (.bi .len (.cons (.var 3) .nil)) (.con (.int (10)))) (.cmp .le (.me .count (.var 3) (.cons (.con k_READ) .nil)) (.con (.int (2)))))]
def b_need_world : List CS :=
  [.ite (.not (.call 12 (.cons (.var 0) .nil) []))
    [.rais 1]
    []]
def b_is_values : List CS :=
  [.ex (.call 24 (.cons (.var 0) .nil) []),
    .ret (.call 16 (.cons (.var 0) (.cons (.var 1) .nil)) [])]
def b_is_script : List CS :=
  [.ex (.call 24 (.cons (.var 0) .nil) []),
    .ret (.call 23 (.cons (.var 0) (.cons (.var 1) .nil)) [])]
def b_unknowns : List CS :=
  [.ex (.call 24 (.cons (.var 0) .nil) []),
    .ret (.call 14 (.cons (.var 0) .nil) [])]
def b__law_jar : List CS :=
  [.asg (.nm 2) (.ite (.cmp .lt (.var 1) (.bi .len (.cons (.var 0) .nil))) (.bi .abs (.cons (.bi .int (.cons (.idx (.var 0) (.var 1)) .nil)) .nil)) (.bin .add (.bin .mul (.con (.int (43))) (.var 1)) (.con (.int (17))))),
    .ret (.lstM (.cons (.ite (.cmp .ge (.var 2) (.bin .pow (.con (.int (10))) (.con (.int (18))))) (.var 2) (.con (.int (0)))) (.cons (.bin .mod (.bi .int (.cons (.bin .add (.bin .add (.bin .mod (.bi .int (.cons (.var 2) .nil)) (.con (.int (2147482943)))) (.bin .mul (.con (.int (60017))) (.var 1))) (.con (.int (83)))) .nil)) (.con (.int (2147482943)))) .nil)))]
def b__law_dip : List CS :=
  [.ite (.cmp .gt (.idx (.var 0) (.con (.int (0)))) (.con (.int (0))))
    [.asg (.nm 2) (.bin .mod (.bi .int (.cons (.idx (.var 0) (.con (.int (0)))) .nil)) (.var 1)),
    .setI (.var 0) (.con (.int (0))) (.bin .fdiv (.bi .int (.cons (.idx (.var 0) (.con (.int (0)))) .nil)) (.var 1)),
    .ret (.var 2)]
    [],
    .setI (.var 0) (.con (.int (1))) (.bin .mod (.bi .int (.cons (.bin .add (.bin .mul (.idx (.var 0) (.con (.int (1)))) (.con (.int (39373)))) (.con (.int (1009)))) .nil)) (.con (.int (2147482943)))),
    .asg (.nm 3) (.bin .mod (.bin .mul (.bi .int (.cons (.idx (.var 0) (.con (.int (1)))) .nil)) (.bin .add (.bin .fdiv (.bi .int (.cons (.idx (.var 0) (.con (.int (1)))) .nil)) (.con (.int (23)))) (.con (.int (29))))) (.con (.int (2147482937)))),
    .ret (.bin .mod (.bi .int (.cons (.bin .fdiv (.bi .int (.cons (.var 3) .nil)) (.con (.int (29)))) .nil)) (.var 1))]
def b__law_any_of : List CS :=
  [.ret (.idx (.var 1) (.call 29 (.cons (.var 0) (.cons (.bi .len (.cons (.var 1) .nil)) .nil)) []))]
def b__law_low : List CS :=
  [.asg (.tp (.cons (.nm 2) (.cons (.nm 3) .nil))) (.tup (.cons (.bi .abs (.cons (.var 0) .nil)) (.cons (.bi .abs (.cons (.var 1) .nil)) .nil))),
    .whl (.cmp .ne (.var 3) (.con (.int (0))))
    [.asg (.tp (.cons (.nm 2) (.cons (.nm 3) .nil))) (.tup (.cons (.var 3) (.cons (.bin .mod (.var 2) (.var 3)) .nil)))],
    .ret (.ite (.cmp .gt (.var 1) (.con (.int (0)))) (.tup (.cons (.bin .fdiv (.var 0) (.var 2)) (.cons (.bin .fdiv (.var 1) (.var 2)) .nil))) (.tup (.cons (.bin .fdiv (.neg (.var 0)) (.var 2)) (.cons (.bin .fdiv (.neg (.var 1)) (.var 2)) .nil))))]
def b__law_add : List CS :=
  [.ret (.call 31 (.cons (.bin .add (.bin .mul (.idx (.var 0) (.con (.int (0)))) (.idx (.var 1) (.con (.int (1))))) (.bin .mul (.idx (.var 1) (.con (.int (0)))) (.idx (.var 0) (.con (.int (1)))))) (.cons (.bin .mul (.idx (.var 0) (.con (.int (1)))) (.idx (.var 1) (.con (.int (1))))) .nil)) [])]
def b__law_sub : List CS :=
  [.ret (.call 31 (.cons (.bin .sub (.bin .mul (.idx (.var 0) (.con (.int (0)))) (.idx (.var 1) (.con (.int (1))))) (.bin .mul (.idx (.var 1) (.con (.int (0)))) (.idx (.var 0) (.con (.int (1)))))) (.cons (.bin .mul (.idx (.var 0) (.con (.int (1)))) (.idx (.var 1) (.con (.int (1))))) .nil)) [])]
def b__law_mul : List CS :=
  [.ret (.call 31 (.cons (.bin .mul (.idx (.var 0) (.con (.int (0)))) (.idx (.var 1) (.con (.int (0))))) (.cons (.bin .mul (.idx (.var 0) (.con (.int (1)))) (.idx (.var 1) (.con (.int (1))))) .nil)) [])]
def b__law_less : List CS :=
  [.ret (.cmp .lt (.bin .mul (.idx (.var 0) (.con (.int (0)))) (.idx (.var 1) (.con (.int (1))))) (.bin .mul (.idx (.var 1) (.con (.int (0)))) (.idx (.var 0) (.con (.int (1))))))]
def b__law_pair : List CS :=
  [.asg (.nm 4) (.bin .add (.var 1) (.call 29 (.cons (.var 0) (.cons (.bin .add (.bin .sub (.var 2) (.var 1)) (.con (.int (1)))) .nil)) [])),
    .asg (.nm 5) (.bin .mul (.call 29 (.cons (.var 0) (.cons (.bin .add (.bin .sub (.var 2) (.var 4)) (.con (.int (1)))) .nil)) []) (.bi .int (.cons (.cmp .gt (.call 29 (.cons (.var 0) (.cons (.con (.int (3))) .nil)) []) (.con (.int (0)))) .nil))),
    .ret (.tup (.cons (.call 31 (.cons (.var 4) (.cons (.var 3) .nil)) []) (.cons (.call 31 (.cons (.bin .add (.var 4) (.var 5)) (.cons (.var 3) .nil)) []) .nil)))]
def b__law_world : List CS :=
  [.asg (.nm 1) (.tup .nil),
    .for_ (.nm 2) (.rng (.bin .add (.con (.int (1))) (.call 29 (.cons (.var 0) (.cons (.con (.int (2))) .nil)) [])))
    [.asg (.nm 3) (.call 30 (.cons (.var 0) (.cons (.lst (.cons (.con (.int (1))) (.cons (.con (.int (2))) (.cons (.con (.int (10))) (.cons (.con (.int (7))) .nil))))) .nil)) []),
    .asg (.nm 4) (.lst (.cons (.tup (.cons (.tup (.cons (.con (.int (1))) (.cons (.con (.int (1))) .nil))) (.cons (.tup (.cons (.con (.int (1))) (.cons (.con (.int (1))) .nil))) .nil))) (.cons (.tup (.cons (.tup (.cons (.con (.int (49))) (.cons (.con (.int (50))) .nil))) (.cons (.tup (.cons (.con (.int (51))) (.cons (.con (.int (50))) .nil))) .nil))) (.cons (.call 36 (.cons (.var 0) (.cons (.con (.int (98))) (.cons (.con (.int (102))) (.cons (.con (.int (100))) .nil)))) []) .nil)))),
    .asg (.nm 5) (.call 36 (.cons (.var 0) (.cons (.con (.int (0))) (.cons (.call 30 (.cons (.var 0) (.cons (.lst (.cons (.var 3) (.cons (.bin .mul (.con (.int (2))) (.var 3)) .nil))) .nil)) []) (.cons (.var 3) .nil)))) []),
    .asg (.nm 1) (.bin .add (.var 1) (.tup (.cons (.tup (.cons (.var 5) (.cons (.call 30 (.cons (.var 0) (.cons (.var 4) .nil)) []) .nil))) .nil)))],
    .ret (.tup (.cons (.var 1) (.cons (.call 36 (.cons (.var 0) (.cons (.con (.int (0))) (.cons (.con (.int (5))) (.cons (.con (.int (10))) .nil)))) []) (.cons (.call 36 (.cons (.var 0) (.cons (.con (.int (0))) (.cons (.con (.int (10))) (.cons (.con (.int (20))) .nil)))) []) .nil))))]
def b__law_rim : List CS :=
  [.asg (.nm 1) (.lst .nil),
    .for_ (.tp (.cons (.nm 2) (.cons (.nm 3) .nil))) (.seq (.idx (.var 0) (.con (.int (0)))))
    [.asg (.nm 1) (.bin .add (.var 1) (.lst (.cons (.var 2) (.cons (.var 3) .nil))))],
    .ret (.bin .add (.var 1) (.lst (.cons (.idx (.var 0) (.con (.int (1)))) (.cons (.idx (.var 0) (.con (.int (2)))) .nil))))]
def b__law_meant : List CS :=
  [.asg (.nm 2) (.tup .nil),
    .for_ (.tp (.cons (.nm 3) (.cons (.nm 4) .nil))) (.seq (.call 38 (.cons (.var 1) .nil) []))
    [.asg (.nm 5) (.call 31 (.cons (.call 30 (.cons (.var 0) (.cons (.lst (.cons (.con (.int (0))) (.cons (.con (.int (1))) (.cons (.con (.int (1))) (.cons (.con (.int (2))) (.cons (.con (.int (3))) (.cons (.con (.int (4))) (.cons (.con (.int (4))) .nil)))))))) .nil)) []) (.cons (.con (.int (4))) .nil)) []),
    .asg (.nm 2) (.bin .add (.var 2) (.tup (.cons (.call 32 (.cons (.var 3) (.cons (.call 34 (.cons (.var 5) (.cons (.call 33 (.cons (.var 4) (.cons (.var 3) .nil)) []) .nil)) []) .nil)) []) .nil)))],
    .ret (.var 2)]
def b__law_name : List CS :=
  [.asg (.nm 2) (.and (.cmp .ne (.var 1) (.lst .nil)) (.cmp .gt (.call 29 (.cons (.var 0) (.cons (.con (.int (12))) .nil)) []) (.con (.int (0))))),
    .ret (.call 30 (.cons (.var 0) (.cons (.ite (.var 2) (.var 1) (.lst (.cons (.con (.str "a")) (.cons (.con (.str "b")) (.cons (.con (.str "c")) (.cons (.con (.str "d")) .nil)))))) .nil)) [])]
def b__law_plain : List CS :=
  [.asg (.tp (.cons (.nm 4) (.cons (.nm 5) .nil))) (.tup (.cons (.call 29 (.cons (.var 0) (.cons (.bi .len (.cons (.idx (.var 1) (.con (.int (0)))) .nil)) .nil)) []) (.cons (.bin .add (.con (.int (3))) (.call 29 (.cons (.var 0) (.cons (.call 30 (.cons (.var 0) (.cons (.lst (.cons (.con (.int (8))) (.cons (.con (.int (18))) .nil))) .nil)) []) .nil)) [])) .nil))),
    .asg (.nm 6) (.call 30 (.cons (.var 0) (.cons (.lst (.cons (.con (.str "a")) (.cons (.con (.str "b")) (.cons (.con (.str "c")) (.cons (.con (.str "d")) .nil))))) .nil)) []),
    .asg (.tp (.cons (.nm 7) (.cons (.nm 8) .nil))) (.tup (.cons (.call 40 (.cons (.var 0) (.cons (.var 2) .nil)) []) (.cons (.call 40 (.cons (.var 0) (.cons (.var 2) .nil)) []) .nil))),
    .asg (.tp (.cons (.nm 9) (.cons (.nm 10) .nil))) (.tup (.cons (.bin .add (.con (.int (1))) (.call 29 (.cons (.var 0) (.cons (.call 30 (.cons (.var 0) (.cons (.lst (.cons (.con (.int (3))) (.cons (.con (.int (20))) .nil))) .nil)) []) .nil)) [])) (.cons (.ite (.cmp .ne (.var 6) (.con (.str "d"))) (.con (.str "d")) (.con (.str "a"))) .nil))),
    .asg (.nm 11) (.dicM [.inr "cut", .inr "outer"] (.cons (.tup (.cons (.con (.str "cut")) (.cons (.var 6) (.cons (.var 4) (.cons (.var 5) .nil))))) (.cons (.tup (.cons (.con (.str "outer")) (.cons (.var 6) (.cons (.var 7) (.cons (.var 9) .nil))))) .nil))),
    .setDs (.cons (.var 11) (.cons (.var 11) .nil)) (.cons (.con (.str "inner")) (.cons (.con (.str "half")) .nil)) (.tup (.cons (.tup (.cons (.con (.str "inner")) (.cons (.var 6) (.cons (.var 7) (.cons (.var 9) .nil))))) (.cons (.tup (.cons (.con (.str "half")) (.cons (.var 6) (.cons (.var 7) .nil)))) .nil))),
    .setD (.var 11) (.con (.str "split")) (.tup (.cons (.con (.str "split")) (.cons (.var 6) (.cons (.var 10) (.cons (.var 7) (.cons (.var 4) (.cons (.var 5) .nil))))))),
    .setD (.var 11) (.con (.str "join")) (.tup (.cons (.con (.str "join")) (.cons (.var 6) (.cons (.var 7) (.cons (.var 8) .nil))))),
    .setDs (.cons (.var 11) (.cons (.var 11) .nil)) (.cons (.con (.str "again")) (.cons (.con (.str "hold")) .nil)) (.tup (.cons (.tup (.cons (.con (.str "again")) (.cons (.var 6) (.cons (.var 4) .nil)))) (.cons (.tup (.cons (.con (.str "hold")) (.cons (.var 7) (.cons (.var 8) .nil)))) .nil))),
    .setD (.var 11) (.con (.str "read")) (.tup (.cons (.con (.str "read")) (.cons (.var 7) (.cons (.var 4) .nil)))),
    .ret (.me .get2 (.var 11) (.cons (.call 30 (.cons (.var 0) (.cons (.var 3) .nil)) []) (.cons (.tup .nil) .nil)))]
def b__law_script : List CS :=
  [.asg (.tp (.cons (.nm 4) (.cons (.nm 5) .nil))) (.tup (.cons (.tup (.cons (.tup (.cons (.con (.str "cut")) (.cons (.con (.str "a")) (.cons (.con (.int (0))) (.cons (.con (.int (10))) .nil))))) (.cons (.call 41 (.cons (.var 0) (.cons (.var 1) (.cons (.lst .nil) (.cons (.lst (.cons (.con (.str "cut")) .nil)) .nil)))) []) .nil))) (.cons (.lst (.cons (.con (.str "a")) (.cons (.con (.str "b")) .nil))) .nil))),
    .for_ (.nm 6) (.rng (.call 29 (.cons (.var 0) (.cons (.bin .add (.var 2) (.con (.int (1)))) .nil)) []))
    [.asg (.nm 7) (.call 41 (.cons (.var 0) (.cons (.var 1) (.cons (.var 5) (.cons (.var 3) .nil)))) []),
    .ite (.and (.cmp .eq (.idx (.var 7) (.con (.int (0)))) (.con (.str "read"))) (.cmp .ne (.lcIf (.var 10) (.nm 10) (.seq (.var 4)) (.cmp .eq (.idx (.var 10) (.con (.int (0)))) (.con (.str "read")))) (.lst .nil)))
    [.asg (.nm 7) (.tup (.cons (.con (.str "hold")) (.cons (.idx (.var 7) (.con (.int (1)))) (.cons (.call 40 (.cons (.var 0) (.cons (.var 5) .nil)) []) .nil))))]
    [],
    .asg (.nm 5) (.bi .sortSet (.cons (.bin .add (.bin .add (.var 5) (.bin .mul (.lst (.cons (.con (.str "d")) .nil)) (.bi .int (.cons (.cmp .eq (.idx (.var 7) (.con (.int (0)))) (.con (.str "split"))) .nil)))) (.lst (.cons (.idx (.var 7) (.con (.int (1)))) .nil))) .nil)),
    .ite (.and (.cmp .eq (.call 29 (.cons (.var 0) (.cons (.con (.int (7))) .nil)) []) (.con (.int (0)))) (.and (.cmp .lt (.bi .len (.cons (.var 4) .nil)) (.con (.int (4)))) (.cmp .ne (.idx (.var 7) (.con (.int (0)))) (.con (.str "read")))))
    [.asg (.nm 8) (.call 30 (.cons (.var 0) (.cons (.lst (.cons (.con (.str "longer")) (.cons (.con (.str "same")) (.cons (.con (.str "shorter")) .nil)))) .nil)) []),
    .asg (.nm 9) (.bin .mul (.tup (.cons (.tup (.cons (.con (.str "half")) (.cons (.con (.str "c")) (.cons (.con (.str "a")) .nil)))) .nil)) (.call 29 (.cons (.var 0) (.cons (.con (.int (2))) .nil)) [])),
    .asg (.nm 7) (.tup (.cons (.con (.str "if")) (.cons (.call 40 (.cons (.var 0) (.cons (.var 5) .nil)) []) (.cons (.con (.str "a")) (.cons (.var 8) (.cons (.tup (.cons (.var 7) .nil)) (.cons (.var 9) .nil)))))))]
    [],
    .asg (.nm 4) (.bin .add (.var 4) (.tup (.cons (.var 7) .nil)))],
    .ret (.var 4)]
def b__law_kinds : List CS :=
  [.ret (.lst (.cons (.con (.str "outer")) (.cons (.con (.str "inner")) (.cons (.con (.str "join")) (.cons (.con (.str "half")) (.cons (.con (.str "split")) (.cons (.con (.str "read")) (.cons (.con (.str "again")) (.cons (.con (.str "again")) (.cons (.con (.str "hold")) (.cons (.con (.str "hold")) (.cons (.con (.str "hold")) (.cons (.con (.str "cut")) .nil)))))))))))))]
def b__law_int : List CS :=
  [.ret (.and (.isi (.var 0) .int) (.and (.not (.isi (.var 0) .bool)) (.chain .le .le (.var 1) (.var 0) (.var 2))))]
def b__law_is_part : List CS :=
  [.ite (.or (.not (.isi (.var 0) .tuple)) (.cmp .ne (.bi .len (.cons (.var 0) .nil)) (.con (.int (2)))))
    [.ret (.con (.bl false))]
    [],
    .ret (.and (.call 44 (.cons (.idx (.var 0) (.con (.int (0)))) (.cons (.neg (.var 1)) (.cons (.var 1) .nil))) []) (.and (.call 44 (.cons (.idx (.var 0) (.con (.int (1)))) (.cons (.con (.int (1))) (.cons (.var 1) .nil))) []) (.cmp .eq (.call 31 (.cons (.idx (.var 0) (.con (.int (0)))) (.cons (.idx (.var 0) (.con (.int (1)))) .nil)) []) (.var 0))))]
def b__law_is_pair : List CS :=
  [.ite (.or (.not (.isi (.var 0) .tuple)) (.cmp .ne (.bi .len (.cons (.var 0) .nil)) (.con (.int (2)))))
    [.ret (.con (.bl false))]
    [],
    .ite (.cmp .ne (.lcIf (.var 3) (.nm 3) (.seq (.var 0)) (.not (.call 45 (.cons (.var 3) (.cons (.bin .pow (.con (.int (10))) (.con (.int (30)))) .nil)) []))) (.lst .nil))
    [.ret (.con (.bl false))]
    [],
    .ite (.or (.cmp .gt (.bi .max2 (.cons (.idx (.idx (.var 0) (.con (.int (0)))) (.con (.int (1)))) (.cons (.idx (.idx (.var 0) (.con (.int (1)))) (.con (.int (1)))) .nil))) (.con (.int (100)))) (.call 35 (.cons (.idx (.var 0) (.con (.int (1)))) (.cons (.idx (.var 0) (.con (.int (0)))) .nil)) []))
    [.ret (.con (.bl false))]
    [],
    .ret (.and (.not (.call 35 (.cons (.idx (.var 0) (.con (.int (0)))) (.cons (.var 1) .nil)) [])) (.not (.call 35 (.cons (.var 2) (.cons (.idx (.var 0) (.con (.int (1)))) .nil)) [])))]
def b__law_is_world : List CS :=
  [.ite (.or (.not (.isi (.var 0) .tuple)) (.cmp .ne (.bi .len (.cons (.var 0) .nil)) (.con (.int (3)))))
    [.ret (.con (.bl false))]
    [],
    .ite (.or (.not (.isi (.idx (.var 0) (.con (.int (0)))) .tuple)) (.cmp .nin (.bi .len (.cons (.idx (.var 0) (.con (.int (0)))) .nil)) (.lst (.cons (.con (.int (1))) (.cons (.con (.int (2))) .nil)))))
    [.ret (.con (.bl false))]
    [],
    .for_ (.nm 1) (.seq (.idx (.var 0) (.con (.int (0)))))
    [.ite (.or (.not (.isi (.var 1) .tuple)) (.or (.cmp .ne (.bi .len (.cons (.var 1) .nil)) (.con (.int (2)))) (.not (.call 46 (.cons (.idx (.var 1) (.con (.int (0)))) (.cons (.tup (.cons (.con (.int (0))) (.cons (.con (.int (1))) .nil))) (.cons (.tup (.cons (.con (.int (2))) (.cons (.con (.int (1))) .nil))) .nil))) []))))
    [.ret (.con (.bl false))]
    [],
    .ite (.not (.call 46 (.cons (.idx (.var 1) (.con (.int (1)))) (.cons (.tup (.cons (.con (.int (49))) (.cons (.con (.int (50))) .nil))) (.cons (.tup (.cons (.con (.int (51))) (.cons (.con (.int (50))) .nil))) .nil))) []))
    [.ret (.con (.bl false))]
    []],
    .ret (.and (.call 46 (.cons (.idx (.var 0) (.con (.int (1)))) (.cons (.tup (.cons (.con (.int (0))) (.cons (.con (.int (1))) .nil))) (.cons (.tup (.cons (.con (.int (1))) (.cons (.con (.int (2))) .nil))) .nil))) []) (.call 46 (.cons (.idx (.var 0) (.con (.int (2)))) (.cons (.tup (.cons (.con (.int (0))) (.cons (.con (.int (1))) .nil))) (.cons (.tup (.cons (.con (.int (1))) (.cons (.con (.int (2))) .nil))) .nil))) []))]
def b__law_is_meant : List CS :=
  [.asg (.nm 2) (.call 38 (.cons (.var 0) .nil) []),
    .ite (.or (.not (.isi (.var 1) .tuple)) (.cmp .ne (.bi .len (.cons (.var 1) .nil)) (.bi .len (.cons (.var 2) .nil))))
    [.ret (.con (.bl false))]
    [],
    .for_ (.tp (.cons (.nm 3) (.cons (.tp (.cons (.nm 4) (.cons (.nm 5) .nil))) .nil))) (.zip (.var 1) (.var 2))
    [.ite (.or (.not (.call 45 (.cons (.var 3) (.cons (.bin .pow (.con (.int (10))) (.con (.int (30)))) .nil)) [])) (.or (.call 35 (.cons (.var 3) (.cons (.var 4) .nil)) []) (.call 35 (.cons (.var 5) (.cons (.var 3) .nil)) [])))
    [.ret (.con (.bl false))]
    []],
    .ret (.con (.bl true))]
def b__law_is_plain : List CS :=
  [.ite (.or (.not (.isi (.var 1) .tuple)) (.or (.cmp .nin (.bi .len (.cons (.var 1) .nil)) (.lst (.cons (.con (.int (3))) (.cons (.con (.int (4))) (.cons (.con (.int (6))) .nil))))) (.not (.isi (.idx (.var 1) (.con (.int (0)))) .str))))
    [.ret (.con (.bl false))]
    [],
    .asg (.tp (.cons (.nm 2) (.cons (.nm 3) (.cons (.nm 4) .nil)))) (.tup (.cons (.lst (.cons (.con (.int (0))) (.cons (.bin .sub (.bi .len (.cons (.idx (.var 0) (.con (.int (0)))) .nil)) (.con (.int (1)))) .nil))) (.cons (.lst (.cons (.con (.int (3))) (.cons (.con (.int (20))) .nil))) (.cons (.lst (.cons (.con (.int (1))) (.cons (.con (.int (20))) .nil))) .nil)))),
    .asg (.nm 5) (.dicM [.inr "cut", .inr "outer", .inr "inner", .inr "join"] (.cons (.lst (.cons (.con (.str "")) (.cons (.var 2) (.cons (.var 3) .nil)))) (.cons (.lst (.cons (.con (.str "")) (.cons (.con (.str "")) (.cons (.var 4) .nil)))) (.cons (.lst (.cons (.con (.str "")) (.cons (.con (.str "")) (.cons (.var 4) .nil)))) (.cons (.lst (.cons (.con (.str "")) (.cons (.con (.str "")) (.cons (.con (.str "")) .nil)))) .nil))))),
    .setDs (.cons (.var 5) (.cons (.var 5) (.cons (.var 5) .nil))) (.cons (.con (.str "half")) (.cons (.con (.str "hold")) (.cons (.con (.str "read")) .nil))) (.tup (.cons (.lst (.cons (.con (.str "")) (.cons (.con (.str "")) .nil))) (.cons (.lst (.cons (.con (.str "")) (.cons (.con (.str "")) .nil))) (.cons (.lst (.cons (.con (.str "")) (.cons (.var 2) .nil))) .nil)))),
    .setDs (.cons (.var 5) (.cons (.var 5) .nil)) (.cons (.con (.str "again")) (.cons (.con (.str "split")) .nil)) (.tup (.cons (.lst (.cons (.con (.str "")) (.cons (.var 2) .nil))) (.cons (.lst (.cons (.con (.str "")) (.cons (.con (.str "")) (.cons (.con (.str "")) (.cons (.var 2) (.cons (.var 3) .nil)))))) .nil))),
    .asg (.nm 6) (.me .get2 (.var 5) (.cons (.idx (.var 1) (.con (.int (0)))) (.cons (.lst .nil) .nil))),
    .ite (.cmp .ne (.bi .len (.cons (.var 6) .nil)) (.bin .sub (.bi .len (.cons (.var 1) .nil)) (.con (.int (1)))))
    [.ret (.con (.bl false))]
    [],
    .for_ (.tp (.cons (.nm 7) (.cons (.nm 8) .nil))) (.zip (.slc (.var 1) (.at (.con (.int (1)))) .no) (.var 6))
    [.ite (.and (.cmp .eq (.var 8) (.con (.str ""))) (.or (.not (.isi (.var 7) .str)) (.cmp .nin (.var 7) (.lst (.cons (.con (.str "a")) (.cons (.con (.str "b")) (.cons (.con (.str "c")) (.cons (.con (.str "d")) (.cons (.con (.str "e")) (.cons (.con (.str "f")) .nil))))))))))
    [.ret (.con (.bl false))]
    [],
    .ite (.and (.cmp .ne (.var 8) (.con (.str ""))) (.not (.call 44 (.cons (.var 7) (.cons (.idx (.var 8) (.con (.int (0)))) (.cons (.idx (.var 8) (.con (.int (1)))) .nil))) [])))
    [.ret (.con (.bl false))]
    []],
    .ret (.or (.cmp .ne (.idx (.var 1) (.con (.int (0)))) (.con (.str "split"))) (.cmp .ne (.idx (.var 1) (.con (.int (1)))) (.idx (.var 1) (.con (.int (2))))))]
def b__law_count : List CS :=
  [.ite (.or (.not (.isi (.var 1) .tuple)) (.or (.cmp .eq (.var 1) (.tup .nil)) (.or (.not (.isi (.idx (.var 1) (.con (.int (0)))) .str)) (.cmp .ne (.idx (.var 1) (.con (.int (0)))) (.con (.str "if"))))))
    [.ret (.ite (.call 49 (.cons (.var 0) (.cons (.var 1) .nil)) []) (.lst (.cons (.idx (.var 1) (.con (.int (0)))) .nil)) (.con (.non)))]
    [],
    .ite (.or (.cmp .ne (.bi .len (.cons (.var 1) .nil)) (.con (.int (6)))) (.not (.call 49 (.cons (.var 0) (.cons (.bin .add (.tup (.cons (.con (.str "hold")) .nil)) (.slc (.var 1) (.at (.con (.int (1)))) (.at (.con (.int (3)))))) .nil)) [])))
    [.ret (.con (.non))]
    [],
    .ite (.or (.not (.isi (.idx (.var 1) (.con (.int (3)))) .str)) (.cmp .nin (.idx (.var 1) (.con (.int (3)))) (.lst (.cons (.con (.str "longer")) (.cons (.con (.str "same")) (.cons (.con (.str "shorter")) .nil))))))
    [.ret (.con (.non))]
    [],
    .for_ (.nm 2) (.seq (.slc (.var 1) (.at (.con (.int (4)))) .no))
    [.ite (.or (.not (.isi (.var 2) .tuple)) (.cmp .gt (.bi .len (.cons (.var 2) .nil)) (.con (.int (3)))))
    [.ret (.con (.non))]
    [],
    .ite (.cmp .ne (.lcIf (.var 3) (.nm 3) (.seq (.var 2)) (.not (.call 49 (.cons (.var 0) (.cons (.var 3) .nil)) []))) (.lst .nil))
    [.ret (.con (.non))]
    []],
    .ret (.bin .add (.bin .add (.lst (.cons (.con (.str "if")) .nil)) (.lc (.idx (.var 3) (.con (.int (0)))) (.nm 3) (.seq (.idx (.var 1) (.con (.int (4))))))) (.lc (.idx (.var 3) (.con (.int (0)))) (.nm 3) (.seq (.idx (.var 1) (.con (.int (5)))))))]
def b__law_is_script : List CS :=
  [.ite (.or (.not (.isi (.var 1) .tuple)) (.cmp .gt (.bi .len (.cons (.var 1) .nil)) (.con (.int (6)))))
    [.ret (.con (.bl false))]
    [],
    .asg (.nm 2) (.lst .nil),
    .for_ (.nm 3) (.seq (.var 1))
    [.asg (.nm 4) (.call 50 (.cons (.var 0) (.cons (.var 3) .nil)) []),
    .ite (.isN (.var 4))
    [.ret (.con (.bl false))]
    [],
    .asg (.nm 2) (.bin .add (.var 2) (.var 4))],
    .ret (.and (.cmp .le (.bi .len (.cons (.var 2) .nil)) (.con (.int (10)))) (.cmp .le (.me .count (.var 2) (.cons (.con (.str "read")) .nil)) (.con (.int (2)))))]
def b__law_any_thing : List CS :=
  [.ite (.or (.cmp .eq (.var 1) (.con (.int (0)))) (.cmp .lt (.call 29 (.cons (.var 0) (.cons (.con (.int (8))) .nil)) []) (.con (.int (5)))))
    [.asg (.nm 2) (.lst (.cons (.con (.int (0))) (.cons (.con (.int (1))) (.cons (.neg (.con (.int (1)))) (.cons (.con (.int (2))) (.cons (.con (.int (3))) (.cons (.con (.int (20))) (.cons (.con (.int (21))) (.cons (.con (.bl true)) (.cons (.con (.bl false)) (.cons (.con (.non)) (.cons (.con (.str "")) (.cons (.con (.str "a")) (.cons (.con (.str "f")) (.cons (.con (.str "g")) (.cons (.con (.str "cut")) (.cons (.con (.str "same")) (.cons (.bin .pow (.con (.int (10))) (.con (.int (31)))) (.cons (.tup .nil) (.cons (.lst .nil) .nil)))))))))))))))))))),
    .ret (.call 30 (.cons (.var 0) (.cons (.bin .add (.var 2) (.lst (.cons (.tup (.cons (.con (.int (1))) (.cons (.con (.int (2))) .nil))) (.cons (.tup (.cons (.con (.int (2))) (.cons (.con (.int (4))) .nil))) (.cons (.tup (.cons (.con (.int (0))) (.cons (.con (.int (1))) .nil))) (.cons (.tup (.cons (.con (.str "cut")) (.cons (.con (.str "a")) (.cons (.con (.int (0))) (.cons (.con (.int (3))) .nil))))) (.cons (.tup (.cons (.con (.str "hold")) (.cons (.con (.str "a")) (.cons (.con (.str "b")) .nil)))) .nil))))))) .nil)) [])]
    [],
    .asg (.nm 3) (.lc (.call 52 (.cons (.var 0) (.cons (.bin .sub (.var 1) (.con (.int (1)))) .nil)) []) (.nm 4) (.rng (.call 29 (.cons (.var 0) (.cons (.con (.int (5))) .nil)) []))),
    .ret (.ite (.cmp .eq (.call 29 (.cons (.var 0) (.cons (.con (.int (3))) .nil)) []) (.con (.int (0)))) (.var 3) (.bi .tuple (.cons (.var 3) .nil)))]
def b__law_spoiled : List CS :=
  [.ite (.or (.not (.isi (.var 1) .tuple)) (.or (.cmp .eq (.var 1) (.tup .nil)) (.cmp .eq (.call 29 (.cons (.var 0) (.cons (.con (.int (6))) .nil)) []) (.con (.int (0))))))
    [.asg (.nm 2) (.lst (.cons (.call 52 (.cons (.var 0) (.cons (.con (.int (1))) .nil)) []) (.cons (.lst (.cons (.var 1) .nil)) .nil))),
    .ite (.isi (.var 1) .str)
    [.asg (.nm 2) (.bin .add (.var 2) (.lst (.cons (.bin .add (.var 1) (.con (.str "s"))) (.cons (.con (.str "b")) (.cons (.con (.str "inner")) (.cons (.con (.str "read")) (.cons (.con (.str "longer")) (.cons (.me .upper (.var 1) .nil) .nil))))))))]
    [.ite (.isi (.var 1) .int)
    [.asg (.nm 2) (.bin .add (.var 2) (.lst (.cons (.bin .add (.var 1) (.con (.int (1)))) (.cons (.bin .sub (.var 1) (.con (.int (1)))) (.cons (.notV (.var 1)) (.cons (.bin .add (.var 1) (.con (.int (17)))) .nil))))))]
    []],
    .ret (.call 30 (.cons (.var 0) (.cons (.var 2) .nil)) [])]
    [],
    .asg (.tp (.cons (.nm 3) (.cons (.nm 4) .nil))) (.tup (.cons (.call 29 (.cons (.var 0) (.cons (.bi .len (.cons (.var 1) .nil)) .nil)) []) (.cons (.call 29 (.cons (.var 0) (.cons (.con (.int (8))) .nil)) []) .nil))),
    .ite (.cmp .eq (.var 4) (.con (.int (0))))
    [.ret (.bin .add (.slc (.var 1) .no (.at (.var 3))) (.slc (.var 1) (.at (.bin .add (.var 3) (.con (.int (1))))) .no))]
    [],
    .ite (.cmp .eq (.var 4) (.con (.int (1))))
    [.ret (.bin .add (.bin .add (.slc (.var 1) .no (.at (.var 3))) (.bin .mul (.slc (.var 1) (.at (.var 3)) (.at (.bin .add (.var 3) (.con (.int (1)))))) (.con (.int (2))))) (.slc (.var 1) (.at (.bin .add (.var 3) (.con (.int (1))))) .no))]
    [],
    .ite (.cmp .eq (.var 4) (.con (.int (2))))
    [.ret (.rev (.var 1))]
    [],
    .ite (.cmp .eq (.var 4) (.con (.int (3))))
    [.ret (.bi .list (.cons (.var 1) .nil))]
    [],
    .ret (.bin .add (.bin .add (.slc (.var 1) .no (.at (.var 3))) (.tup (.cons (.call 53 (.cons (.var 0) (.cons (.idx (.var 1) (.var 3)) .nil)) []) .nil))) (.slc (.var 1) (.at (.bin .add (.var 3) (.con (.int (1))))) .no))]
def b__law_all_right : List CS :=
  [.asg (.nm 2) (.lst (.cons (.call 12 (.cons (.var 1) .nil) []) (.cons (.call 25 (.cons (.var 0) (.cons (.var 1) .nil)) []) (.cons (.call 26 (.cons (.var 0) (.cons (.var 1) .nil)) []) .nil)))),
    .ite (.cmp .ne (.lcIf (.var 3) (.nm 3) (.seq (.var 2)) (.not (.isi (.var 3) .bool))) (.lst .nil))
    [.ret (.con (.bl false))]
    [],
    .ret (.cmp .eq (.var 2) (.lst (.cons (.call 47 (.cons (.var 1) .nil) []) (.cons (.call 48 (.cons (.var 0) (.cons (.var 1) .nil)) []) (.cons (.call 51 (.cons (.var 0) (.cons (.var 1) .nil)) []) .nil)))))]
def b_law : List CS :=
  [.for_ (.nm 1) (.rng (.bi .max2 (.cons (.con (.int (4))) (.cons (.bi .min2 (.cons (.con (.int (10))) (.cons (.bin .add (.bi .len (.cons (.var 0) .nil)) (.con (.int (3)))) .nil))) .nil))))
    [.asg (.nm 2) (.call 28 (.cons (.var 0) (.cons (.var 1) .nil)) []),
    .asg (.nm 3) (.call 37 (.cons (.var 2) .nil) []),
    .asg (.nm 4) (.bin .add (.slc (.lst (.cons (.con (.str "lack0")) (.cons (.con (.str "factor0")) (.cons (.con (.str "lack1")) (.cons (.con (.str "factor1")) .nil))))) .no (.at (.bin .mul (.con (.int (2))) (.bi .len (.cons (.idx (.var 3) (.con (.int (0)))) .nil))))) (.lst (.cons (.con (.str "pencil")) (.cons (.con (.str "saw")) .nil)))),
    .ite (.cmp .ne (.call 27 (.cons (.var 3) .nil) []) (.var 4))
    [.ret (.con (.bl false))]
    [],
    .asg (.nm 5) (.lst (.cons (.var 3) (.cons (.call 39 (.cons (.var 2) (.cons (.var 3) .nil)) []) (.cons (.call 42 (.cons (.var 2) (.cons (.var 3) (.cons (.con (.int (4))) (.cons (.call 43 .nil []) .nil)))) []) .nil)))),
    .for_ (.nm 6) (.rng (.con (.int (14))))
    [.asg (.nm 7) (.call 30 (.cons (.var 2) (.cons (.var 5) .nil)) []),
    .asg (.nm 8) (.lst (.cons (.var 7) (.cons (.call 53 (.cons (.var 2) (.cons (.var 7) .nil)) []) (.cons (.call 53 (.cons (.var 2) (.cons (.call 53 (.cons (.var 2) (.cons (.var 7) .nil)) []) .nil)) []) .nil)))),
    .ite (.not (.call 54 (.cons (.var 3) (.cons (.call 30 (.cons (.var 2) (.cons (.bin .add (.var 8) (.lst (.cons (.call 52 (.cons (.var 2) (.cons (.con (.int (2))) .nil)) []) .nil))) .nil)) []) .nil)) []))
    [.ret (.con (.bl false))]
    []]],
    .asg (.tp (.cons (.nm 9) (.cons (.nm 10) (.cons (.nm 11) .nil)))) (.tup (.cons (.tup (.cons (.tup (.cons (.tup (.cons (.con (.int (0))) (.cons (.con (.int (1))) .nil))) (.cons (.tup (.cons (.con (.int (2))) (.cons (.con (.int (1))) .nil))) .nil))) (.cons (.tup (.cons (.tup (.cons (.con (.int (49))) (.cons (.con (.int (50))) .nil))) (.cons (.tup (.cons (.con (.int (51))) (.cons (.con (.int (50))) .nil))) .nil))) .nil))) (.cons (.tup (.cons (.con (.str "hold")) (.cons (.con (.str "a")) (.cons (.con (.str "f")) .nil)))) (.cons (.tup (.cons (.con (.str "read")) (.cons (.con (.str "a")) (.cons (.con (.int (0))) .nil)))) .nil)))),
    .asg (.nm 12) (.tup (.cons (.tup (.cons (.var 9) .nil)) (.cons (.tup (.cons (.tup (.cons (.con (.int (0))) (.cons (.con (.int (1))) .nil))) (.cons (.tup (.cons (.con (.int (1))) (.cons (.con (.int (2))) .nil))) .nil))) (.cons (.tup (.cons (.tup (.cons (.con (.int (1))) (.cons (.con (.int (100))) .nil))) (.cons (.tup (.cons (.con (.int (1))) (.cons (.con (.int (2))) .nil))) .nil))) .nil)))),
    .asg (.nm 13) (.lst (.cons (.var 12) (.cons (.tup (.cons (.tup (.cons (.var 9) (.cons (.var 9) .nil))) (.cons (.idx (.var 12) (.con (.int (1)))) (.cons (.idx (.var 12) (.con (.int (2)))) .nil)))) (.cons (.tup (.cons (.bin .mul (.tup (.cons (.var 9) .nil)) (.con (.int (3)))) (.cons (.idx (.var 12) (.con (.int (1)))) (.cons (.idx (.var 12) (.con (.int (2)))) .nil)))) (.cons (.tup (.cons (.tup .nil) (.cons (.idx (.var 12) (.con (.int (1)))) (.cons (.idx (.var 12) (.con (.int (2)))) .nil)))) .nil))))),
    .asg (.nm 13) (.bin .add (.var 13) (.lst (.cons (.tup (.cons (.tup (.cons (.var 9) .nil)) (.cons (.tup (.cons (.tup (.cons (.con (.int (0))) (.cons (.con (.int (1))) .nil))) (.cons (.tup (.cons (.con (.int (51))) (.cons (.con (.int (100))) .nil))) .nil))) (.cons (.idx (.var 12) (.con (.int (2)))) .nil)))) (.cons (.tup (.cons (.tup (.cons (.var 9) .nil)) (.cons (.tup (.cons (.tup (.cons (.con (.int (1))) (.cons (.con (.int (101))) .nil))) (.cons (.tup (.cons (.con (.int (1))) (.cons (.con (.int (2))) .nil))) .nil))) (.cons (.idx (.var 12) (.con (.int (2)))) .nil)))) .nil)))),
    .asg (.nm 13) (.bin .add (.var 13) (.lst (.cons (.tup (.cons (.tup (.cons (.con (.int (2))) (.cons (.con (.int (1))) .nil))) (.cons (.tup (.cons (.con (.int (51))) (.cons (.con (.int (50))) .nil))) (.cons (.tup (.cons (.con (.int (0))) (.cons (.con (.int (1))) .nil))) (.cons (.tup (.cons (.con (.int (1))) (.cons (.con (.int (2))) .nil))) .nil))))) (.cons (.tup (.cons (.tup (.cons (.con (.int (0))) (.cons (.con (.int (1))) .nil))) (.cons (.tup (.cons (.con (.int (1))) (.cons (.con (.int (1))) .nil))) (.cons (.tup (.cons (.con (.int (0))) (.cons (.con (.int (1))) .nil))) (.cons (.tup (.cons (.con (.int (0))) (.cons (.con (.int (1))) .nil))) .nil))))) (.cons (.bin .mul (.tup (.cons (.var 10) .nil)) (.con (.int (6)))) (.cons (.bin .mul (.tup (.cons (.var 10) .nil)) (.con (.int (7)))) .nil)))))),
    .asg (.nm 13) (.addM (.var 13) (.lst (.cons (.tup (.cons (.var 11) (.cons (.var 11) .nil))) (.cons (.tup (.cons (.var 11) (.cons (.var 11) (.cons (.var 11) .nil)))) (.cons (.tup (.cons (.tup (.cons (.con (.str "cut")) (.cons (.con (.str "a")) (.cons (.con (.int (1))) (.cons (.con (.int (5))) .nil))))) .nil)) (.cons (.tup (.cons (.tup (.cons (.con (.str "cut")) (.cons (.con (.str "a")) (.cons (.con (.int (0))) (.cons (.con (.int (2))) .nil))))) .nil)) .nil)))))),
    .app (.var 13) (.tup (.cons (.tup (.cons (.con (.str "cut")) (.cons (.con (.str "f")) (.cons (.con (.int (0))) (.cons (.con (.int (20))) .nil))))) .nil)),
    .asg (.nm 13) (.bin .add (.var 13) (.lst (.cons (.tup (.cons (.tup (.cons (.con (.str "split")) (.cons (.con (.str "a")) (.cons (.con (.str "a")) (.cons (.con (.str "b")) (.cons (.con (.int (0))) (.cons (.con (.int (5))) .nil))))))) .nil)) (.cons (.tup (.cons (.tup (.cons (.con (.str "split")) (.cons (.con (.str "a")) (.cons (.con (.str "b")) (.cons (.con (.str "a")) (.cons (.con (.int (0))) (.cons (.con (.int (5))) .nil))))))) .nil)) (.cons (.tup (.cons (.tup (.cons (.con (.str "outer")) (.cons (.con (.str "a")) (.cons (.con (.str "b")) (.cons (.con (.int (21))) .nil))))) .nil)) .nil))))),
    .asg (.nm 14) (.tup (.cons (.con (.str "if")) (.cons (.con (.str "a")) (.cons (.con (.str "b")) (.cons (.con (.str "same")) (.cons (.bin .mul (.tup (.cons (.var 10) .nil)) (.con (.int (3)))) (.cons (.bin .mul (.tup (.cons (.var 10) .nil)) (.con (.int (3)))) .nil))))))),
    .asg (.nm 13) (.bin .add (.var 13) (.lst (.cons (.tup (.cons (.var 14) .nil)) (.cons (.tup (.cons (.var 14) (.cons (.var 10) (.cons (.var 10) .nil)))) (.cons (.bin .add (.tup (.cons (.var 14) .nil)) (.bin .mul (.tup (.cons (.var 10) .nil)) (.con (.int (4))))) (.cons (.tup (.cons (.bin .add (.slc (.var 14) .no (.at (.con (.int (4))))) (.tup (.cons (.tup (.cons (.var 14) .nil)) (.cons (.tup .nil) .nil)))) .nil)) .nil)))))),
    .ret (.cmp .eq (.lcIf (.var 7) (.nm 7) (.seq (.var 13)) (.not (.call 54 (.cons (.var 12) (.cons (.var 7) .nil)) []))) (.lst .nil))]
def top (i : Nat) : Stmt := PySem.Challenge.pw_copiedlengths_k01_worlds_values_and_scri.main.body.getD i (.Pass ⟨0, 0, 0, 0⟩)
def f_common : CF := ⟨"common", defArgs (top 4), defBody (top 4), defScope (top 4), ["one", "other"], ["one", "other"], b_common, [(2, [])], []⟩
def f_lowest : CF := ⟨"lowest", defArgs (top 5), defBody (top 5), defScope (top 5), ["top", "below"], ["top", "below", "part"], b_lowest, [(2, [])], []⟩
def f_is_less : CF := ⟨"is_less", defArgs (top 6), defBody (top 6), defScope (top 6), ["one", "other"], ["one", "other"], b_is_less, [(2, [])], []⟩
def f_is_integer : CF := ⟨"is_integer", defArgs (top 24), defBody (top 24), defScope (top 24), ["value"], ["value"], b_is_integer, [(1, [])], []⟩
def f_is_from : CF := ⟨"is_from", defArgs (top 25), defBody (top 25), defScope (top 25), ["value", "low", "high"], ["value", "low", "high"], b_is_from, [(3, [])], []⟩
def f_is_tuple_of : CF := ⟨"is_tuple_of", defArgs (top 26), defBody (top 26), defScope (top 26), ["value", "many"], ["value", "many"], b_is_tuple_of, [(2, [])], []⟩
def f_is_word : CF := ⟨"is_word", defArgs (top 27), defBody (top 27), defScope (top 27), ["value", "some"], ["value", "some"], b_is_word, [(2, [])], []⟩
def f_is_any_fraction : CF := ⟨"is_any_fraction", defArgs (top 28), defBody (top 28), defScope (top 28), ["value"], ["value"], b_is_any_fraction, [(1, [])], []⟩
def f_is_fraction : CF := ⟨"is_fraction", defArgs (top 29), defBody (top 29), defScope (top 29), ["value", "most"], ["value", "most"], b_is_fraction, [(2, [])], []⟩
def f_is_between : CF := ⟨"is_between", defArgs (top 30), defBody (top 30), defScope (top 30), ["value", "low", "high"], ["value", "low", "high"], b_is_between, [(3, [])], []⟩
def f_are_bounds : CF := ⟨"are_bounds", defArgs (top 31), defBody (top 31), defScope (top 31), ["value", "low", "high"], ["value", "low", "high"], b_are_bounds, [(3, [])], []⟩
def f_is_tape : CF := ⟨"is_tape", defArgs (top 32), defBody (top 32), defScope (top 32), ["value"], ["value"], b_is_tape, [(1, [])], []⟩
def f_is_world : CF := ⟨"is_world", defArgs (top 33), defBody (top 33), defScope (top 33), ["value"], ["value", "tape"], b_is_world, [(1, [])], []⟩
def f_bounds_of : CF := ⟨"bounds_of", defArgs (top 34), defBody (top 34), defScope (top 34), ["world"], ["world", "found", "lack", "factor"], b_bounds_of, [(1, [])], []⟩
def f_names_of : CF := ⟨"names_of", defArgs (top 35), defBody (top 35), defScope (top 35), ["world"], ["world", "found", "tape"], b_names_of, [(1, [])], []⟩
def f_many_of : CF := ⟨"many_of", defArgs (top 36), defBody (top 36), defScope (top 36), ["world"], ["world"], b_many_of, [(1, [])], []⟩
def f_is_values_of : CF := ⟨"is_values_of", defArgs (top 37), defBody (top 37), defScope (top 37), ["world", "value"], ["world", "value", "part", "low", "high"], b_is_values_of, [(2, [])], []⟩
def f_is_name : CF := ⟨"is_name", defArgs (top 38), defBody (top 38), defScope (top 38), ["value"], ["value"], b_is_name, [(1, [])], []⟩
def f_is_mark : CF := ⟨"is_mark", defArgs (top 39), defBody (top 39), defScope (top 39), ["value"], ["value"], b_is_mark, [(1, [])], []⟩
def f_is_plain : CF := ⟨"is_plain", defArgs (top 40), defBody (top 40), defScope (top 40), ["world", "value"], ["world", "value", "word", "tapes", "many", "part"], b_is_plain, [(2, [])], []⟩
def f_is_body : CF := ⟨"is_body", defArgs (top 41), defBody (top 41), defScope (top 41), ["world", "value"], ["world", "value", "step"], b_is_body, [(2, [])], []⟩
def f_is_step : CF := ⟨"is_step", defArgs (top 42), defBody (top 42), defScope (top 42), ["world", "value", "has_if"], ["world", "value", "has_if"], b_is_step, [(2, [.bl true]), (3, [])], [.bl true]⟩
def f_all_steps : CF := ⟨"all_steps", defArgs (top 43), defBody (top 43), defScope (top 43), ["script"], ["script", "found", "step"], b_all_steps, [(1, [])], []⟩
def f_is_script_of : CF := ⟨"is_script_of", defArgs (top 44), defBody (top 44), defScope (top 44), ["world", "value"], ["world", "value", "step", "words"], b_is_script_of, [(2, [])], []⟩
def f_need_world : CF := ⟨"need_world", defArgs (top 45), defBody (top 45), defScope (top 45), ["value"], ["value"], b_need_world, [(1, [])], []⟩
def f_is_values : CF := ⟨"is_values", defArgs (top 46), defBody (top 46), defScope (top 46), ["world", "value"], ["world", "value"], b_is_values, [(2, [])], []⟩
def f_is_script : CF := ⟨"is_script", defArgs (top 47), defBody (top 47), defScope (top 47), ["world", "value"], ["world", "value"], b_is_script, [(2, [])], []⟩
def f_unknowns : CF := ⟨"unknowns", defArgs (top 48), defBody (top 48), defScope (top 48), ["world"], ["world"], b_unknowns, [(1, [])], []⟩
def f__law_jar : CF := ⟨"_law_jar", defArgs (top 50), defBody (top 50), defScope (top 50), ["_law_script_here", "_law_k"], ["_law_script_here", "_law_k", "_law_cell"], b__law_jar, [(2, [])], []⟩
def f__law_dip : CF := ⟨"_law_dip", defArgs (top 51), defBody (top 51), defScope (top 51), ["_law_jar_here", "_law_many"], ["_law_jar_here", "_law_many", "_law_found", "_law_stirred"], b__law_dip, [(2, [])], []⟩
def f__law_any_of : CF := ⟨"_law_any_of", defArgs (top 52), defBody (top 52), defScope (top 52), ["_law_jar_here", "_law_some"], ["_law_jar_here", "_law_some"], b__law_any_of, [(2, [])], []⟩
def f__law_low : CF := ⟨"_law_low", defArgs (top 53), defBody (top 53), defScope (top 53), ["_law_top", "_law_below"], ["_law_top", "_law_below", "_law_one", "_law_rest"], b__law_low, [(2, [])], []⟩
def f__law_add : CF := ⟨"_law_add", defArgs (top 54), defBody (top 54), defScope (top 54), ["_law_one", "_law_two"], ["_law_one", "_law_two"], b__law_add, [(2, [])], []⟩
def f__law_sub : CF := ⟨"_law_sub", defArgs (top 55), defBody (top 55), defScope (top 55), ["_law_one", "_law_two"], ["_law_one", "_law_two"], b__law_sub, [(2, [])], []⟩
def f__law_mul : CF := ⟨"_law_mul", defArgs (top 56), defBody (top 56), defScope (top 56), ["_law_one", "_law_two"], ["_law_one", "_law_two"], b__law_mul, [(2, [])], []⟩
def f__law_less : CF := ⟨"_law_less", defArgs (top 57), defBody (top 57), defScope (top 57), ["_law_one", "_law_two"], ["_law_one", "_law_two"], b__law_less, [(2, [])], []⟩
def f__law_pair : CF := ⟨"_law_pair", defArgs (top 58), defBody (top 58), defScope (top 58), ["_law_jar_here", "_law_low_here", "_law_high", "_law_below"], ["_law_jar_here", "_law_low_here", "_law_high", "_law_below", "_law_base", "_law_far"], b__law_pair, [(4, [])], []⟩
def f__law_world : CF := ⟨"_law_world", defArgs (top 59), defBody (top 59), defScope (top 59), ["_law_jar_here"], ["_law_jar_here", "_law_tapes", "_law_turn", "_law_below", "_law_some", "_law_lack"], b__law_world, [(1, [])], []⟩
def f__law_rim : CF := ⟨"_law_rim", defArgs (top 60), defBody (top 60), defScope (top 60), ["_law_world_here"], ["_law_world_here", "_law_found", "_law_lack", "_law_factor"], b__law_rim, [(1, [])], []⟩
def f__law_meant : CF := ⟨"_law_meant", defArgs (top 61), defBody (top 61), defScope (top 61), ["_law_jar_here", "_law_world_here"], ["_law_jar_here", "_law_world_here", "_law_found", "_law_low_here", "_law_high", "_law_part"], b__law_meant, [(2, [])], []⟩
def f__law_name : CF := ⟨"_law_name", defArgs (top 62), defBody (top 62), defScope (top 62), ["_law_jar_here", "_law_some"], ["_law_jar_here", "_law_some", "_law_good"], b__law_name, [(2, [])], []⟩
def f__law_plain : CF := ⟨"_law_plain", defArgs (top 63), defBody (top 63), defScope (top 63), ["_law_jar_here", "_law_world_here", "_law_some", "_law_kinds_here"], ["_law_jar_here", "_law_world_here", "_law_some", "_law_kinds_here", "_law_tape", "_law_mark", "_law_piece", "_law_one", "_law_two", "_law_many", "_law_rest", "_law_shapes"], b__law_plain, [(4, [])], []⟩
def f__law_script : CF := ⟨"_law_script", defArgs (top 64), defBody (top 64), defScope (top 64), ["_law_jar_here", "_law_world_here", "_law_most", "_law_kinds_here"], ["_law_jar_here", "_law_world_here", "_law_most", "_law_kinds_here", "_law_found", "_law_some", "_law_turn", "_law_step", "_law_seen", "_law_other", "_law_one"], b__law_script, [(4, [])], []⟩
def f__law_kinds : CF := ⟨"_law_kinds", defArgs (top 65), defBody (top 65), defScope (top 65), [], [], b__law_kinds, [(0, [])], []⟩
def f__law_int : CF := ⟨"_law_int", defArgs (top 66), defBody (top 66), defScope (top 66), ["_law_thing", "_law_low_here", "_law_high"], ["_law_thing", "_law_low_here", "_law_high"], b__law_int, [(3, [])], []⟩
def f__law_is_part : CF := ⟨"_law_is_part", defArgs (top 67), defBody (top 67), defScope (top 67), ["_law_thing", "_law_most"], ["_law_thing", "_law_most"], b__law_is_part, [(2, [])], []⟩
def f__law_is_pair : CF := ⟨"_law_is_pair", defArgs (top 68), defBody (top 68), defScope (top 68), ["_law_thing", "_law_low_here", "_law_high"], ["_law_thing", "_law_low_here", "_law_high", "_law_one"], b__law_is_pair, [(3, [])], []⟩
def f__law_is_world : CF := ⟨"_law_is_world", defArgs (top 69), defBody (top 69), defScope (top 69), ["_law_thing"], ["_law_thing", "_law_tape"], b__law_is_world, [(1, [])], []⟩
def f__law_is_meant : CF := ⟨"_law_is_meant", defArgs (top 70), defBody (top 70), defScope (top 70), ["_law_world_here", "_law_thing"], ["_law_world_here", "_law_thing", "_law_rim_here", "_law_part", "_law_low_here", "_law_high"], b__law_is_meant, [(2, [])], []⟩
def f__law_is_plain : CF := ⟨"_law_is_plain", defArgs (top 71), defBody (top 71), defScope (top 71), ["_law_world_here", "_law_thing"], ["_law_world_here", "_law_thing", "_law_tapes", "_law_marks", "_law_many", "_law_shapes", "_law_shape", "_law_part", "_law_sort"], b__law_is_plain, [(2, [])], []⟩
def f__law_count : CF := ⟨"_law_count", defArgs (top 72), defBody (top 72), defScope (top 72), ["_law_world_here", "_law_thing"], ["_law_world_here", "_law_thing", "_law_body", "_law_one"], b__law_count, [(2, [])], []⟩
def f__law_is_script : CF := ⟨"_law_is_script", defArgs (top 73), defBody (top 73), defScope (top 73), ["_law_world_here", "_law_thing"], ["_law_world_here", "_law_thing", "_law_words", "_law_step", "_law_more"], b__law_is_script, [(2, [])], []⟩
def f__law_any_thing : CF := ⟨"_law_any_thing", defArgs (top 74), defBody (top 74), defScope (top 74), ["_law_jar_here", "_law_depth"], ["_law_jar_here", "_law_depth", "_law_some", "_law_items", "_law_k"], b__law_any_thing, [(2, [])], []⟩
def f__law_spoiled : CF := ⟨"_law_spoiled", defArgs (top 75), defBody (top 75), defScope (top 75), ["_law_jar_here", "_law_thing"], ["_law_jar_here", "_law_thing", "_law_some", "_law_at", "_law_kind"], b__law_spoiled, [(2, [])], []⟩
def f__law_all_right : CF := ⟨"_law_all_right", defArgs (top 76), defBody (top 76), defScope (top 76), ["_law_world_here", "_law_thing"], ["_law_world_here", "_law_thing", "_law_found", "_law_one"], b__law_all_right, [(2, [])], []⟩
def f_law : CF := ⟨"law", defArgs (top 77), defBody (top 77), defScope (top 77), ["_law_script_here"], ["_law_script_here", "_law_k", "_law_jar_here", "_law_world_here", "_law_names", "_law_some", "_law_turn", "_law_thing", "_law_more", "_law_tape", "_law_hold", "_law_read", "_law_plain_here", "_law_rows", "_law_branch"], b_law, [(1, [])], []⟩
def fns : List CF := [f_common, f_lowest, f_is_less, f_is_integer, f_is_from, f_is_tuple_of, f_is_word, f_is_any_fraction, f_is_fraction, f_is_between, f_are_bounds, f_is_tape, f_is_world, f_bounds_of, f_names_of, f_many_of, f_is_values_of, f_is_name, f_is_mark, f_is_plain, f_is_body, f_is_step, f_all_steps, f_is_script_of, f_need_world, f_is_values, f_is_script, f_unknowns, f__law_jar, f__law_dip, f__law_any_of, f__law_low, f__law_add, f__law_sub, f__law_mul, f__law_less, f__law_pair, f__law_world, f__law_rim, f__law_meant, f__law_name, f__law_plain, f__law_script, f__law_kinds, f__law_int, f__law_is_part, f__law_is_pair, f__law_is_world, f__law_is_meant, f__law_is_plain, f__law_count, f__law_is_script, f__law_any_thing, f__law_spoiled, f__law_all_right, f_law]
def gi : Gi := { fns := fns, txts := [("AGAIN", "again"), ("CUT", "cut"), ("HALF", "half"), ("HOLD", "hold"), ("IF", "if"), ("INNER", "inner"), ("JOIN", "join"), ("OUTER", "outer"), ("READ", "read"), ("SPLIT", "split")], nums := [("MOST_PART", (1000000000000000000000000000000))], tups := [("NAMES", k_NAMES), ("SEEN", k_SEEN)], excs := ["LengthError", "InvalidWorld"], frees := ["abs", "isinstance", "bool", "int", "len", "tuple", "str", "all", "range", "zip", "list", "sorted", "set", "max", "min"] }

end KK
end Rf
end T_core
section T_K01Ma
set_option Elab.async false
set_option linter.all false
set_option maxRecDepth 100000
set_option maxHeartbeats 1000000
namespace Rf
namespace KK
open PySem L2
/-! ### numbers -/
theorem log_small {x : Int} (h : x.natAbs < 2 ^ 250) : x.natAbs.log2 < 9000 := by
  by_cases h0 : x.natAbs = 0
  · rw [h0]; decide
  · have := (Nat.log2_lt h0).mpr h
    omega
theorem bits_small {x : Int} (h : x.natAbs < 2 ^ 250) : bitsOk x = true := decide_eq_true (Nat.lt_trans (log_small h) (by decide))
theorem eMul {M : Mem} {i j : Int} (h1 : i.natAbs < 2 ^ 250) (h2 : j.natAbs < 2 ^ 250) : eOp M .mul (.int i) (.int j) = some (.int (i * j)) := by
  show (if (bitsOk i && bitsOk j) = true then _ else _) = _
  rw [bits_small h1, bits_small h2]; rfl
theorem eDiv {M : Mem} {i j : Int} (h : 0 < j) (hs : j.natAbs < 2 ^ 250) : eOp M .fdiv (.int i) (.int j) = some (.int (i / j)) := if_pos ⟨h, log_small hs⟩
theorem eMod {M : Mem} {i j : Int} (h : 0 < j) : eOp M .mod (.int i) (.int j) = some (.int (i % j)) := if_pos h
@[simp] theorem eAdd {M : Mem} {i j : Int} : eOp M .add (.int i) (.int j) = some (.int (i + j)) := rfl
@[simp] theorem eSub {M : Mem} {i j : Int} : eOp M .sub (.int i) (.int j) = some (.int (i - j)) := rfl
@[simp] theorem cLt {i j : Int} : eCo .lt (.int i) (.int j) = some (decide (i < j)) := rfl
@[simp] theorem cLe {i j : Int} : eCo .le (.int i) (.int j) = some (decide (i ≤ j)) := rfl
@[simp] theorem cGt {i j : Int} : eCo .gt (.int i) (.int j) = some (decide (j < i)) := rfl
@[simp] theorem cGe {i j : Int} : eCo .ge (.int i) (.int j) = some (decide (j ≤ i)) := rfl
@[simp] theorem cEq {i j : Int} : eCo .eq (.int i) (.int j) = some (decide (i = j)) := eEq_int
@[simp] theorem cNe {i j : Int} : eCo .ne (.int i) (.int j) = some (!decide (i = j)) := by show (eEq (.int i) (.int j)).map not = _; rw [eEq_int]; rfl
@[simp] theorem bInt1 {M : Mem} {i : Int} : eBi M .int [.int i] = some (.int i) := rfl
@[simp] theorem bLenT {M : Mem} {xs : List D} : eBi M .len [.tup xs] = some (.int xs.length) := rfl
@[simp] theorem bLenL {M : Mem} {xs : List D} : eBi M .len [.lst xs] = some (.int xs.length) := rfl
@[simp] theorem bAbs1 {M : Mem} {i : Int} : eBi M .abs [.int i] = some (.int (if i < 0 then -i else i)) := rfl
theorem absNN (a : Int) : 0 ≤ (if a < 0 then -a else a) := by split <;> omega
theorem absGcd (a b : Int) : Int.gcd (if a < 0 then -a else a) b = Int.gcd a b := by
  split
  · exact Int.neg_gcd
  · rfl
theorem gcdPos {a b : Int} (h : 0 < b) : 0 < (Int.gcd a b : Int) := by
  have := Int.gcd_pos_of_ne_zero_right a (show b ≠ 0 by omega)
  omega
theorem gcdLe {a b : Int} (h : 0 < b) : (Int.gcd a b : Int).natAbs ≤ b.natAbs := by
  show Int.gcd a b ≤ _
  exact Nat.le_of_dvd (by omega) (Int.gcd_dvd_natAbs_right a b)
/-- a fraction in lowest terms -/
def low (a b : Int) : D := .tup [.int (a / (Int.gcd a b : Int)), .int (b / (Int.gcd a b : Int))]
theorem gcdStep {a b : Int} (h0 : 0 ≤ a) (h1 : 0 ≤ b) : Int.gcd b (a % b) = Int.gcd a b := by
  obtain ⟨a', rfl⟩ := Int.eq_ofNat_of_zero_le h0
  obtain ⟨b', rfl⟩ := Int.eq_ofNat_of_zero_le h1
  show Nat.gcd b' (a' % b') = Nat.gcd a' b'
  rw [Nat.gcd_comm, ← Nat.gcd_rec, Nat.gcd_comm]
theorem turn1 {c : Env → Mem → Res D} {b : Env → Mem → SRes} {n : Nat} {env e : Env} {M M' : Mem} {r : Fl × Env × Mem} (hc : c env M = ok (.bl true) M) (hb : b env M = some (.nx, e, M')) (h : turns c b n e M' = some r) : turns c b (n + 1) env M = some r := by
  show (asB (c env M)).to env _ = _
  rw [hc]
  show (match b env M with
    | some (.nx, e, M) => turns c b n e M
    | some (.cont, e, M) => turns c b n e M
    | some (.brk, e, M) => some (.nx, e, M)
    | r => r) = _
  rw [hb]
  exact h
theorem turn0 {c : Env → Mem → Res D} {b : Env → Mem → SRes} {env : Env} {M : Mem} (hc : c env M = ok (.bl false) M) : turns c b 1 env M = some (.nx, env, M) := by
  show (asB (c env M)).to env _ = _
  rw [hc]
  rfl
theorem two : 2 ≤ sizeLine := line1 2 (by decide)
theorem common_turns (cl : Calls) (M : Mem) : ∀ (k : Nat) (a b : Int), 0 ≤ a → 0 ≤ b → b.toNat < k → ∃ n, turns (ev cl (.cmp .gt (.var 1) (.con (.int (0))))) (exs cl [.asg (.tp (.cons (.nm 0) (.cons (.nm 1) .nil))) (.tup (.cons (.var 1) (.cons (.bin .mod (.var 0) (.var 1)) .nil)))]) n [some (.int a), some (.int b)] M = some (.nx, [some (.int (Int.gcd a b)), some (.int 0)], M)
  | 0, a, b, h0, h1, h => by omega
  | k + 1, a, b, h0, h1, h => by
    by_cases hb : 0 < b
    · have hm : 0 ≤ a % b := Int.emod_nonneg _ (by omega)
      have hm2 : a % b < b := Int.emod_lt_of_pos _ hb
      obtain ⟨n, ih⟩ := common_turns cl M k b (a % b) h1 hm (by omega)
      rw [gcdStep h0 h1] at ih
      exact ⟨n + 1, turn1 (by simp [hb]) (by simp [eMod hb, two]) ih⟩
    · have hb0 : b = 0 := by omega
      subst hb0
      refine ⟨1, ?_⟩
      have : (Int.gcd a 0 : Int) = a := by rw [Int.gcd_zero_right]; omega
      rw [this]
      exact turn0 (by simp)
theorem common_eq (n : Nat) (a b : Int) (M : Mem) (h0 : 0 ≤ a) (h1 : 0 ≤ b) : callN gi.tab (n + 1) 0 [.int a, .int b] M = ok (.int (Int.gcd a b)) M := by
  obtain ⟨k, h⟩ := common_turns (callN gi.tab n) M (b.toNat + 1) a b h0 h1 (by omega)
  refine call_pure (fd := f_common.fd) (e := [some (.int (Int.gcd a b)), some (.int 0)]) rfl rfl ?_
  show exs _ b_common [some (.int a), some (.int b)] M = _
  simp [b_common, whileS_of h]
theorem lowest_eq (n : Nat) (a b : Int) (M : Mem) (hb : 0 < b) (hs : b.natAbs < 2 ^ 250) : callN gi.tab (n + 2) 1 [.int a, .int b] M = ok (low a b) M := by
  have hc : callN gi.tab (n + 1) 0 [.int (if a < 0 then -a else a), .int b] M = ok (.int (Int.gcd a b)) M := by
    rw [common_eq n _ _ M (absNN _) (by omega), absGcd]
  refine call_pure (fd := f_lowest.fd) (e := [some (.int a), some (.int b), some (.int (Int.gcd a b))]) rfl rfl ?_
  show exs _ b_lowest [some (.int a), some (.int b), none] M = _
  have hn : ¬ b < 0 := by omega
  have e3 : ∀ x : Int, eOp M .fdiv (.int x) (.int (Int.gcd a b)) = some (.int (x / (Int.gcd a b : Int))) := fun x => eDiv (gcdPos hb) (Nat.lt_of_le_of_lt (gcdLe hb) hs)
  simp [b_lowest, hn, two, hc, e3, low]
theorem lawlow_turns (cl : Calls) (M : Mem) (x y : D) : ∀ (k : Nat) (a b : Int), 0 ≤ a → 0 ≤ b → b.toNat < k → ∃ n, turns (ev cl (.cmp .ne (.var 3) (.con (.int (0))))) (exs cl [.asg (.tp (.cons (.nm 2) (.cons (.nm 3) .nil))) (.tup (.cons (.var 3) (.cons (.bin .mod (.var 2) (.var 3)) .nil)))]) n [some x, some y, some (.int a), some (.int b)] M = some (.nx, [some x, some y, some (.int (Int.gcd a b)), some (.int 0)], M)
  | 0, a, b, h0, h1, h => by omega
  | k + 1, a, b, h0, h1, h => by
    by_cases hb : 0 < b
    · have hm : 0 ≤ a % b := Int.emod_nonneg _ (by omega)
      have hm2 : a % b < b := Int.emod_lt_of_pos _ hb
      obtain ⟨n, ih⟩ := lawlow_turns cl M x y k b (a % b) h1 hm (by omega)
      rw [gcdStep h0 h1] at ih
      have hn : ¬ b = 0 := by omega
      exact ⟨n + 1, turn1 (by simp [hn]) (by simp [eMod hb, two]) ih⟩
    · have hb0 : b = 0 := by omega
      subst hb0
      refine ⟨1, ?_⟩
      have : (Int.gcd a 0 : Int) = a := by rw [Int.gcd_zero_right]; omega
      rw [this]
      exact turn0 (by simp)
theorem lawlow_eq (n : Nat) (a b : Int) (M : Mem) (hb : 0 < b) (hs : b.natAbs < 2 ^ 250) : callN gi.tab (n + 1) 31 [.int a, .int b] M = ok (low a b) M := by
  have hn : ¬ b < 0 := by omega
  obtain ⟨k, h⟩ := lawlow_turns (callN gi.tab n) M (.int a) (.int b) (b.toNat + 1) (if a < 0 then -a else a) b (absNN _) (by omega) (by omega)
  rw [absGcd] at h
  refine call_pure (fd := f__law_low.fd) (e := [some (.int a), some (.int b), some (.int (Int.gcd a b)), some (.int 0)]) rfl rfl ?_
  show exs _ b__law_low [some (.int a), some (.int b), none, none] M = _
  have e3 : ∀ x : Int, eOp M .fdiv (.int x) (.int (Int.gcd a b)) = some (.int (x / (Int.gcd a b : Int))) := fun x => eDiv (gcdPos hb) (Nat.lt_of_le_of_lt (gcdLe hb) hs)
  have hw := whileS_of h
  simp [b__law_low, hn, two, hw, hb, e3, low]
theorem less_eq (n : Nat) (a b c d : Int) (M : Mem) (ha : a.natAbs < 2 ^ 250) (hb : b.natAbs < 2 ^ 250) (hc : c.natAbs < 2 ^ 250) (hd : d.natAbs < 2 ^ 250) :
    callN gi.tab (n + 1) 2 [.tup [.int a, .int b], .tup [.int c, .int d]] M = ok (.bl (decide (a * d < c * b))) M := by
  refine call_pure (fd := f_is_less.fd) (e := [some (.tup [.int a, .int b]), some (.tup [.int c, .int d])]) rfl rfl ?_
  show exs _ b_is_less [some (.tup [.int a, .int b]), some (.tup [.int c, .int d])] M = _
  have i0 : ∀ x y : D, eIdx M (.tup [x, y]) (.int 0) = some x := fun _ _ => rfl
  have i1 : ∀ x y : D, eIdx M (.tup [x, y]) (.int 1) = some y := fun _ _ => rfl
  simp [b_is_less, i0, i1, eMul ha hd, eMul hc hb]
theorem lawless_eq (n : Nat) (a b c d : Int) (M : Mem) (ha : a.natAbs < 2 ^ 250) (hb : b.natAbs < 2 ^ 250) (hc : c.natAbs < 2 ^ 250) (hd : d.natAbs < 2 ^ 250) :
    callN gi.tab (n + 1) 35 [.tup [.int a, .int b], .tup [.int c, .int d]] M = ok (.bl (decide (a * d < c * b))) M := by
  refine call_pure (fd := f__law_less.fd) (e := [some (.tup [.int a, .int b]), some (.tup [.int c, .int d])]) rfl rfl ?_
  show exs _ b__law_less [some (.tup [.int a, .int b]), some (.tup [.int c, .int d])] M = _
  have i0 : ∀ x y : D, eIdx M (.tup [x, y]) (.int 0) = some x := fun _ _ => rfl
  have i1 : ∀ x y : D, eIdx M (.tup [x, y]) (.int 1) = some y := fun _ _ => rfl
  simp [b__law_less, i0, i1, eMul ha hd, eMul hc hb]
end KK
end Rf
end T_K01Ma
section T_K01Mb
set_option Elab.async false
set_option linter.all false
set_option maxRecDepth 100000
set_option maxHeartbeats 1000000
namespace Rf
namespace KK
open PySem L2
/-! ### parts, pairs, worlds: two recognizers, one law -/
section
variable {k j n : Nat} {M : Mem}
def isI : D → Bool
  | .int _ => true
  | _ => false
theorem isI_eq {d : D} (h : isI d = true) : ∃ i, d = .int i := by cases d <;> first | exact ⟨_, rfl⟩ | cases h
def isT (m : Int) : D → Bool
  | .tup xs => decide ((xs.length : Int) = m)
  | _ => false
def isIn (lo hi : Int) : D → Bool
  | .int i => decide (lo ≤ i) && decide (i ≤ hi)
  | _ => false
theorem ty_int {d : D} (h : okD k j d = true) : isTy .int d = some (match d with | .int _ => true | .bl _ => true | _ => false) := by
  cases d <;> first | rfl | (cases j <;> cases h)
theorem ty_bool {d : D} (h : okD k j d = true) : isTy .bool d = some (match d with | .bl _ => true | _ => false) := by
  cases d <;> first | rfl | (cases j <;> cases h)
theorem ty_tup {d : D} (h : okD k j d = true) : isTy .tuple d = some (match d with | .tup _ => true | _ => false) := by
  cases d <;> first | rfl | (cases j <;> cases h)
theorem ty_str {d : D} (h : okD k j d = true) : isTy .str d = some (match d with | .str _ => true | _ => false) := by
  cases d <;> first | rfl | (cases j <;> cases h)
theorem is_integer_eq {d : D} (h : okD k j d = true) : callN gi.tab (n + 1) 3 [d] M = ok (.bl (isI d)) M := by
  refine call_pure (fd := f_is_integer.fd) (e := [some d]) rfl rfl ?_
  show exs _ b_is_integer [some d] M = _
  cases d <;> first | rfl | (cases j <;> cases h)
theorem is_tuple_of_eq {d : D} {m : Int} (h : okD k j d = true) : callN gi.tab (n + 1) 5 [d, .int m] M = ok (.bl (isT m d)) M := by
  refine call_pure (fd := f_is_tuple_of.fd) (e := [some d, some (.int m)]) rfl rfl ?_
  show exs _ b_is_tuple_of [some d, some (.int m)] M = _
  cases d <;> first | (cases j <;> cases h; done) | (simp [b_is_tuple_of, isTy, isT])
theorem is_from_eq {d : D} {lo hi : Int} (h : okD k j d = true) : callN gi.tab (n + 2) 4 [d, .int lo, .int hi] M = ok (.bl (isIn lo hi d)) M := by
  refine call_pure (fd := f_is_from.fd) (e := [some d, some (.int lo), some (.int hi)]) rfl rfl ?_
  show exs _ b_is_from [some d, some (.int lo), some (.int hi)] M = _
  simp only [b_is_from, exs_cons, ex_ret, ev_and, ev_call, evs_cons, evs_nil, ev_var, s_get0, s_bind_ok, List.append_nil, is_integer_eq h, s_asB]
  cases d <;> first | (cases j <;> cases h; done) | skip
  all_goals first | (simp [isI, isIn]; done) | skip
  rename_i i
  by_cases h1 : lo ≤ i <;> simp [isI, isIn, h1]
theorem law_int_eq {d : D} {lo hi : Int} (h : okD k j d = true) : callN gi.tab (n + 1) 44 [d, .int lo, .int hi] M = ok (.bl (isIn lo hi d)) M := by
  refine call_pure (fd := f__law_int.fd) (e := [some d, some (.int lo), some (.int hi)]) rfl rfl ?_
  show exs _ b__law_int [some d, some (.int lo), some (.int hi)] M = _
  cases d <;> first | (cases j <;> cases h; done) | skip
  all_goals first | (simp [b__law_int, isTy, isIn]; done) | skip
  rename_i i
  by_cases h1 : lo ≤ i <;> simp [b__law_int, isTy, isIn, h1]
theorem eEq_frac {a b c d : Int} : eEq (.tup [.int a, .int b]) (.tup [.int c, .int d]) = some (decide (a = c) && decide (b = d)) := by
  rw [eEq_of ⟨rfl, rfl⟩ ⟨rfl, rfl⟩]
  show some (a == c && (b == d && true)) = _
  rw [Bool.and_true]
  rfl
def fracOk (a b : Int) : Bool := decide (a / (Int.gcd a b : Int) = a) && decide (b / (Int.gcd a b : Int) = b)
def isF0 : D → Bool
  | .tup [.int a, .int b] => decide (1 ≤ b) && fracOk a b
  | _ => false
def isF (m : Int) : D → Bool
  | .tup [.int a, .int b] => (decide (1 ≤ b) && fracOk a b) && (decide ((if a < 0 then -a else a) ≤ m) && decide (b ≤ m))
  | _ => false
theorem ix0 {x : D} {xs : List D} : eIdx M (.tup (x :: xs)) (.int 0) = some x := by
  show atI (x :: xs) 0 = _
  unfold atI
  have : ixN (x :: xs).length 0 = some 0 := by unfold ixN; simp
  rw [this]
  rfl
theorem idx0 {x y : D} : eIdx M (.tup [x, y]) (.int 0) = some x := rfl
theorem idx1 {x y : D} : eIdx M (.tup [x, y]) (.int 1) = some y := rfl
theorem small_of {i : Int} (h : okD k j (.int i) = true) (hk : k ≤ 1000) : i.natAbs < 2 ^ 250 := by
  have := okD_int h
  have h2 : (10 ^ 40 + 20 * 1000 : Nat) < 2 ^ 250 := by decide
  omega
theorem is_any_fraction_eq {d : D} (h : okD k j d = true) (hk : k ≤ 1000) : callN gi.tab (n + 3) 7 [d] M = ok (.bl (isF0 d)) M := by
  refine call_pure (fd := f_is_any_fraction.fd) (e := [some d]) rfl rfl ?_
  show exs _ b_is_any_fraction [some d] M = _
  have ht := is_tuple_of_eq (n := n + 1) (M := M) (m := 2) h
  cases ht2 : isT 2 d with
  | false =>
    rw [ht2] at ht
    have : isF0 d = false := by
      cases d <;> first | rfl | skip
      rename_i xs
      rcases xs with _ | ⟨x, _ | ⟨y, _ | ⟨z, r⟩⟩⟩ <;> first | (cases ht2; done) | rfl | (cases x <;> first | rfl | (cases y <;> rfl))
    simp [b_is_any_fraction, ht, this]
  | true =>
    rw [ht2] at ht
    obtain ⟨x, y, rfl⟩ : ∃ x y, d = .tup [x, y] := by
      cases d <;> first | (cases ht2; done) | skip
      rename_i xs
      have hl : (xs.length : Int) = 2 := of_decide_eq_true ht2
      rcases xs with _ | ⟨x, _ | ⟨y, _ | ⟨z, r⟩⟩⟩
      · simp at hl
      · simp at hl
      · exact ⟨x, y, rfl⟩
      · simp at hl; omega
    obtain ⟨m, rfl, _, hx⟩ := okD_tup h
    have h1 := hx x (by simp)
    have h2 := hx y (by simp)
    have i1 := is_integer_eq (n := n + 1) (M := M) h1
    have i2 := is_integer_eq (n := n + 1) (M := M) h2
    cases hx1 : isI x with
    | false =>
      rw [hx1] at i1
      have : isF0 (.tup [x, y]) = false := by cases x <;> first | rfl | (cases hx1)
      simp [b_is_any_fraction, ht, idx0, idx1, i1, this]
    | true =>
      obtain ⟨a, rfl⟩ := isI_eq hx1
      rw [hx1] at i1
      cases hy1 : isI y with
      | false =>
        rw [hy1] at i2
        have : isF0 (.tup [.int a, y]) = false := by cases y <;> first | rfl | (cases hy1)
        simp [b_is_any_fraction, ht, idx0, idx1, i1, i2, this]
      | true =>
        obtain ⟨b, rfl⟩ := isI_eq hy1
        rw [hy1] at i2
        by_cases hb : b < 1
        · have : isF0 (.tup [.int a, .int b]) = false := by
            show (decide (1 ≤ b) && _) = false
            rw [decide_eq_false (by omega)]; rfl
          simp [b_is_any_fraction, ht, idx0, idx1, i1, i2, hb, this]
        · have hl := lowest_eq n a b M (by omega) (small_of h2 hk)
          have hq : eCo .eq (low a b) (.tup [.int a, .int b]) = some (fracOk a b) := eEq_frac
          have hb1 : 1 ≤ b := by omega
          simp [b_is_any_fraction, ht, idx0, idx1, i1, i2, hb, hl, hq, isF0, hb1]
end
end KK
end Rf
end T_K01Mb
section T_K01Mc
set_option Elab.async false
set_option linter.all false
set_option maxRecDepth 100000
set_option maxHeartbeats 1000000
namespace Rf
namespace KK
open PySem L2
section
variable {k j n : Nat} {M : Mem}
theorem isF0_eq {d : D} (h : isF0 d = true) : ∃ a b, d = .tup [.int a, .int b] ∧ 1 ≤ b ∧ fracOk a b = true := by
  unfold isF0 at h
  split at h
  · rw [Bool.and_eq_true] at h
    exact ⟨_, _, rfl, of_decide_eq_true h.1, h.2⟩
  · cases h
theorem isF_of0 {m : Int} {d : D} (h : isF0 d = false) : isF m d = false := by
  unfold isF
  split
  · have h : (decide _ && fracOk _ _) = false := h
    rw [h]; rfl
  · rfl
theorem isF_eq {m : Int} {d : D} (h : isF m d = true) : ∃ a b, d = .tup [.int a, .int b] ∧ 1 ≤ b ∧ fracOk a b = true ∧ a.natAbs ≤ m.toNat ∧ b ≤ m := by
  unfold isF at h
  split at h
  · rw [Bool.and_eq_true, Bool.and_eq_true, Bool.and_eq_true] at h
    have h1 := of_decide_eq_true h.1.1
    have h2 := of_decide_eq_true h.2.1
    have h3 := of_decide_eq_true h.2.2
    refine ⟨_, _, rfl, h1, h.1.2, ?_, h3⟩
    split at h2 <;> omega
  · cases h
theorem is_fraction_eq {d : D} {m : Int} (h : okD k j d = true) (hk : k ≤ 1000) : callN gi.tab (n + 4) 8 [d, .int m] M = ok (.bl (isF m d)) M := by
  refine call_pure (fd := f_is_fraction.fd) (e := [some d, some (.int m)]) rfl rfl ?_
  show exs _ b_is_fraction [some d, some (.int m)] M = _
  have ht := is_any_fraction_eq (n := n) (M := M) h hk
  cases hf : isF0 d with
  | false =>
    rw [hf] at ht
    simp [b_is_fraction, ht, isF_of0 hf]
  | true =>
    rw [hf] at ht
    obtain ⟨a, b, rfl, hb, hg⟩ := isF0_eq hf
    by_cases h1 : (if a < 0 then -a else a) ≤ m <;> simp [b_is_fraction, ht, idx0, idx1, isF, hb, hg, h1]
/-- a tuple of two -/
theorem isT2 {d : D} (h : isT 2 d = true) : ∃ x y, d = .tup [x, y] := by
  cases d <;> first | (cases h; done) | skip
  rename_i xs
  have hl : (xs.length : Int) = 2 := of_decide_eq_true h
  rcases xs with _ | ⟨x, _ | ⟨y, _ | ⟨z, r⟩⟩⟩
  · simp at hl
  · simp at hl
  · exact ⟨x, y, rfl⟩
  · simp at hl; omega
theorem ty_len {d : D} {m : Int} (hh : okD k j d = true) (h : isT m d = false) : isTy .tuple d = some false ∨ (∃ xs, d = .tup xs ∧ ¬ (xs.length : Int) = m) := by
  cases d <;> first | exact .inl rfl | (cases j <;> cases hh; done) | skip
  exact .inr ⟨_, rfl, of_decide_eq_false h⟩
theorem isF_T {m : Int} {d : D} (h : isT 2 d = false) : isF m d = false := by
  cases z : isF m d with
  | false => rfl
  | true =>
    obtain ⟨a, b, rfl, _⟩ := isF_eq z
    cases h
theorem law_is_part_eq {d : D} {m : Int} (h : okD k j d = true) (hk : k ≤ 1000) : callN gi.tab (n + 2) 45 [d, .int m] M = ok (.bl (isF m d)) M := by
  refine call_pure (fd := f__law_is_part.fd) (e := [some d, some (.int m)]) rfl rfl ?_
  show exs _ b__law_is_part [some d, some (.int m)] M = _
  cases ht : isT 2 d with
  | false =>
    rw [isF_T ht]
    rcases ty_len h ht with h1 | ⟨xs, rfl, h1⟩
    · simp [b__law_is_part, h1]
    · simp [b__law_is_part, isTy, h1]
  | true =>
    obtain ⟨x, y, rfl⟩ := isT2 ht
    obtain ⟨j', rfl, _, hx⟩ := okD_tup h
    have h1 := hx x (by simp)
    have h2 := hx y (by simp)
    have i1 := law_int_eq (n := n) (M := M) (lo := -m) (hi := m) h1
    have i2 := law_int_eq (n := n) (M := M) (lo := 1) (hi := m) h2
    have hn : ∀ M, negI (.int m) M = ok (.int (-m)) M := fun _ => rfl
    cases hx1 : isIn (-m) m x with
    | false =>
      rw [hx1] at i1
      have : isF m (.tup [x, y]) = false := by
        cases z : isF m (.tup [x, y]) with
        | false => rfl
        | true =>
          obtain ⟨a, b, e, _, _, h5, h6⟩ := isF_eq z
          cases e
          have : isIn (-m) m (.int a) = true := by
            show (decide (-m ≤ a) && decide (a ≤ m)) = true
            rw [decide_eq_true (by omega), decide_eq_true (by omega)]; rfl
          rw [this] at hx1; cases hx1
      simp [b__law_is_part, isTy, idx0, idx1, i1, hn, this]
    | true =>
      rw [hx1] at i1
      obtain ⟨a, rfl⟩ : ∃ a, x = .int a := by cases x <;> first | exact ⟨_, rfl⟩ | cases hx1
      have hx1 : (decide (-m ≤ a) && decide (a ≤ m)) = true := hx1
      rw [Bool.and_eq_true] at hx1
      have ha1 := of_decide_eq_true hx1.1
      have ha2 := of_decide_eq_true hx1.2
      cases hy1 : isIn 1 m y with
      | false =>
        rw [hy1] at i2
        have : isF m (.tup [.int a, y]) = false := by
          cases z : isF m (.tup [.int a, y]) with
          | false => rfl
          | true =>
            obtain ⟨a', b, e, h4, _, h5, h6⟩ := isF_eq z
            cases e
            have : isIn 1 m (.int b) = true := by
              show (decide (1 ≤ b) && decide (b ≤ m)) = true
              rw [decide_eq_true h4, decide_eq_true h6]; rfl
            rw [this] at hy1; cases hy1
        simp [b__law_is_part, isTy, idx0, idx1, i1, i2, hn, this]
      | true =>
        rw [hy1] at i2
        obtain ⟨b, rfl⟩ : ∃ b, y = .int b := by cases y <;> first | exact ⟨_, rfl⟩ | cases hy1
        have hy1 : (decide (1 ≤ b) && decide (b ≤ m)) = true := hy1
        rw [Bool.and_eq_true] at hy1
        have hb1 := of_decide_eq_true hy1.1
        have hb2 := of_decide_eq_true hy1.2
        have hl := lawlow_eq n a b M (by omega) (small_of h2 hk)
        have hq : eCo .eq (low a b) (.tup [.int a, .int b]) = some (fracOk a b) := eEq_frac
        have hab : (if a < 0 then -a else a) ≤ m := by split <;> omega
        simp [b__law_is_part, isTy, idx0, idx1, i1, i2, hn, hl, hq, isF, hb1, hb2, hab]
end
end KK
end Rf
end T_K01Mc
section T_K01Md
set_option Elab.async false
set_option linter.all false
set_option maxRecDepth 100000
set_option maxHeartbeats 1000000
namespace Rf
namespace KK
open PySem L2
section
variable {k j n : Nat} {M : Mem}
abbrev M30 : Int := 1000000000000000000000000000000
def pairOk (la lb ha hb a b c d : Int) : Bool := !(decide (100 < b) || (decide (100 < d) || decide (c * b < a * d))) && (!decide (a * lb < la * b) && !decide (ha * d < c * hb))
def isP (la lb ha hb : Int) : D → Bool
  | .tup [.tup [.int a, .int b], .tup [.int c, .int d]] => isF M30 (.tup [.int a, .int b]) && (isF M30 (.tup [.int c, .int d]) && pairOk la lb ha hb a b c d)
  | _ => false
theorem isP_eq {la lb ha hb : Int} {d : D} (h : isP la lb ha hb d = true) : ∃ x y, d = .tup [x, y] ∧ isF M30 x = true ∧ isF M30 y = true := by
  unfold isP at h
  split at h
  · rw [Bool.and_eq_true, Bool.and_eq_true] at h
    exact ⟨_, _, rfl, h.1, h.2.1⟩
  · cases h
theorem isP_no {la lb ha hb : Int} {x y : D} (h : isF M30 x = false ∨ isF M30 y = false) : isP la lb ha hb (.tup [x, y]) = false := by
  cases z : isP la lb ha hb (.tup [x, y]) with
  | false => rfl
  | true =>
    obtain ⟨_, _, e, h1, h2⟩ := isP_eq z
    cases e
    rcases h with h | h
    · rw [h1] at h; cases h
    · rw [h2] at h; cases h
theorem isP_T {la lb ha hb : Int} {d : D} (h : isT 2 d = false) : isP la lb ha hb d = false := by
  cases z : isP la lb ha hb d with
  | false => rfl
  | true =>
    obtain ⟨_, _, rfl, _⟩ := isP_eq z
    cases h
theorem s30 {i : Int} (h : i.natAbs ≤ M30.toNat) : i.natAbs < 2 ^ 250 := Nat.lt_of_le_of_lt h (by decide)
theorem s30' {i : Int} (h0 : 1 ≤ i) (h : i ≤ M30) : i.natAbs < 2 ^ 250 := s30 (by omega)
theorem are_bounds_eq {d : D} {la lb ha hb : Int} (h : okD k j d = true) (hk : k ≤ 1000) (s1 : la.natAbs < 2 ^ 250) (s2 : lb.natAbs < 2 ^ 250) (s3 : ha.natAbs < 2 ^ 250) (s4 : hb.natAbs < 2 ^ 250) :
    callN gi.tab (n + 5) 10 [d, .tup [.int la, .int lb], .tup [.int ha, .int hb]] M = ok (.bl (isP la lb ha hb d)) M := by
  refine call_pure (fd := f_are_bounds.fd) (e := [some d, some (.tup [.int la, .int lb]), some (.tup [.int ha, .int hb])]) rfl rfl ?_
  show exs _ b_are_bounds [some d, some (.tup [.int la, .int lb]), some (.tup [.int ha, .int hb])] M = _
  have ht := is_tuple_of_eq (n := n + 3) (M := M) (m := 2) h
  cases ht2 : isT 2 d with
  | false =>
    rw [ht2] at ht
    simp [b_are_bounds, ht, isP_T ht2]
  | true =>
    rw [ht2] at ht
    obtain ⟨x, y, rfl⟩ := isT2 ht2
    obtain ⟨j', rfl, _, hx⟩ := okD_tup h
    have f1 := is_fraction_eq (n := n) (M := M) (m := M30) (hx x (by simp)) hk
    have f2 := is_fraction_eq (n := n) (M := M) (m := M30) (hx y (by simp)) hk
    cases hx1 : isF M30 x with
    | false =>
      rw [hx1] at f1
      simp [b_are_bounds, k_MOST_PART, ht, idx0, idx1, f1, isP_no (.inl hx1)]
    | true =>
      rw [hx1] at f1
      cases hy1 : isF M30 y with
      | false =>
        rw [hy1] at f2
        simp [b_are_bounds, k_MOST_PART, ht, idx0, idx1, f1, f2, isP_no (.inr hy1)]
      | true =>
        rw [hy1] at f2
        obtain ⟨a, b, rfl, hb1, _, ha5, hb6⟩ := isF_eq hx1
        obtain ⟨c, e, rfl, he1, _, hc5, he6⟩ := isF_eq hy1
        have l1 := less_eq (n + 3) c e a b M (s30 hc5) (s30' he1 he6) (s30 ha5) (s30' hb1 hb6)
        have l2 := less_eq (n + 3) a b la lb M (s30 ha5) (s30' hb1 hb6) s1 s2
        have l3 := less_eq (n + 3) ha hb c e M s3 s4 (s30 hc5) (s30' he1 he6)
        have hp : isP la lb ha hb (.tup [.tup [.int a, .int b], .tup [.int c, .int e]]) = pairOk la lb ha hb a b c e := by
          show (isF M30 _ && (isF M30 _ && _)) = _
          rw [hx1, hy1]; rfl
        rw [hp]
        unfold pairOk
        by_cases g1 : 100 < b
        · simp [b_are_bounds, k_MOST_PART, ht, idx0, idx1, f1, f2, g1]
        · by_cases g2 : 100 < e
          · simp [b_are_bounds, k_MOST_PART, ht, idx0, idx1, f1, f2, g1, g2]
          · by_cases g3 : c * b < a * e
            · simp [b_are_bounds, k_MOST_PART, ht, idx0, idx1, f1, f2, g1, g2, l1, g3]
            · by_cases g4 : a * lb < la * b <;> simp [b_are_bounds, k_MOST_PART, ht, idx0, idx1, f1, f2, g1, g2, l1, l2, l3, g3, g4]
theorem pow30 {M : Mem} : eOp M .pow (.int 10) (.int 30) = some (.int M30) := by
  show ePow 10 30 = _
  unfold ePow
  rw [if_pos (by decide)]; rfl
theorem sz {xs : List D} (h : xs.length ≤ 1000) : xs.length ≤ sizeLine := Nat.le_trans h (line1 1000 (by decide))
theorem law_is_pair_eq {d : D} {la lb ha hb : Int} (h : okD k j d = true) (hk : k ≤ 500) (hj : j ≤ 60) (s1 : la.natAbs < 2 ^ 250) (s2 : lb.natAbs < 2 ^ 250) (s3 : ha.natAbs < 2 ^ 250) (s4 : hb.natAbs < 2 ^ 250) :
    callN gi.tab (n + 3) 46 [d, .tup [.int la, .int lb], .tup [.int ha, .int hb]] M = ok (.bl (isP la lb ha hb d)) M := by
  refine call_pure (fd := f__law_is_pair.fd) (e := [some d, some (.tup [.int la, .int lb]), some (.tup [.int ha, .int hb]), none]) rfl rfl ?_
  show exs _ b__law_is_pair [some d, some (.tup [.int la, .int lb]), some (.tup [.int ha, .int hb]), none] M = _
  cases ht : isT 2 d with
  | false =>
    rw [isP_T ht]
    rcases ty_len h ht with h1 | ⟨xs, rfl, h1⟩
    · simp [b__law_is_pair, h1]
    · simp [b__law_is_pair, isTy, h1]
  | true =>
    obtain ⟨x, y, rfl⟩ := isT2 ht
    obtain ⟨j', rfl, _, hx⟩ := okD_tup h
    have f1 := law_is_part_eq (n := n) (M := M) (m := M30) (hx x (by simp)) (by omega)
    have f2 := law_is_part_eq (n := n) (M := M) (m := M30) (hx y (by simp)) (by omega)
    have hlc := ev_lcIf_of (cl := callN gi.tab (n + 2)) (env := [some (.tup [x, y]), some (.tup [.int la, .int lb]), some (.tup [.int ha, .int hb]), none]) (M := M) (e := .var 3) (i := 3) (it := .seq (.var 0))
      (c := .not (.call 45 (.cons (.var 3) (.cons (.bin .pow (.con (.int (10))) (.con (.int (30)))) .nil)) [])) (xs := [x, y]) (fun z => !isF M30 z) (by simp) (sz (Nat.le_of_lt (by simp)))
      (by
        intro z hz
        have f := law_is_part_eq (n := n) (M := M) (m := M30) (hx z hz) (by omega)
        simp [pow30, f])
      (by intro z hz _; simp)
    have hq : eCo .ne (.lst ([x, y].filter fun z => !isF M30 z)) (.lst []) = some (!([x, y].filter fun z => !isF M30 z).isEmpty) := by
      show (eEq _ _).map not = _
      rw [eEq_nil]
      · rfl
      · refine okD_cmp (k := k) (n := j' + 1) (okD_lstI ?_ fun z hz => hx z (List.mem_filter.mp hz).1) hj
        have := List.length_filter_le (fun z => !isF M30 z) [x, y]
        simp at this ⊢
        omega
    cases hx1 : isF M30 x with
    | false =>
      have he : ([x, y].filter fun z => !isF M30 z).isEmpty = false := by simp [List.filter, hx1]
      rw [he] at hq
      simp only [b__law_is_pair, exs_cons, ex_ite]
      simp [isTy, hlc, hq, isP_no (.inl hx1)]
    | true =>
      cases hy1 : isF M30 y with
      | false =>
        have he : ([x, y].filter fun z => !isF M30 z).isEmpty = false := by simp [List.filter, hx1, hy1]
        rw [he] at hq
        simp [b__law_is_pair, isTy, hlc, hq, isP_no (.inr hy1)]
      | true =>
        have he : ([x, y].filter fun z => !isF M30 z).isEmpty = true := by simp [List.filter, hx1, hy1]
        rw [he] at hq
        obtain ⟨a, b, rfl, hb1, _, ha5, hb6⟩ := isF_eq hx1
        obtain ⟨c, e, rfl, he1, _, hc5, he6⟩ := isF_eq hy1
        have l1 := lawless_eq (n + 1) c e a b M (s30 hc5) (s30' he1 he6) (s30 ha5) (s30' hb1 hb6)
        have l2 := lawless_eq (n + 1) a b la lb M (s30 ha5) (s30' hb1 hb6) s1 s2
        have l3 := lawless_eq (n + 1) ha hb c e M s3 s4 (s30 hc5) (s30' he1 he6)
        have hp : isP la lb ha hb (.tup [.tup [.int a, .int b], .tup [.int c, .int e]]) = pairOk la lb ha hb a b c e := by
          show (isF M30 _ && (isF M30 _ && _)) = _
          rw [hx1, hy1]; rfl
        rw [hp]
        unfold pairOk
        have hm : eBi M .max2 [.int b, .int e] = some (.int (if e > b then e else b)) := rfl
        by_cases g0 : 100 < (if e > b then e else b)
        · have g : 100 < b ∨ 100 < e := by split at g0 <;> omega
          rcases g with g | g <;> simp [b__law_is_pair, isTy, hlc, hq, idx0, idx1, hm, g0, g]
        · have g1 : ¬ 100 < b := by split at g0 <;> omega
          have g2 : ¬ 100 < e := by split at g0 <;> omega
          by_cases g3 : c * b < a * e
          · simp [b__law_is_pair, isTy, hlc, hq, idx0, idx1, hm, g0, g1, g2, l1, g3]
          · by_cases g4 : a * lb < la * b <;> simp [b__law_is_pair, isTy, hlc, hq, idx0, idx1, hm, g0, g1, g2, l1, l2, l3, g3, g4]
end
end KK
end Rf
end T_K01Md
section T_K01Me
set_option Elab.async false
set_option linter.all false
set_option maxRecDepth 100000
set_option maxHeartbeats 1000000
namespace Rf
namespace KK
open PySem L2
theorem call_ex {T : Tab} {n f : Nat} {fd : Fd} {args : List D} {M : Mem} {d : D} (h : T f = some fd) (ha : args.length = fd.arity)
    (hb : ∃ e, exs (callN T n) fd.body (args.map some ++ List.replicate (fd.slots - args.length) none) M = some (.ret d, e, M)) : callN T (n + 1) f args M = ok d M := by
  obtain ⟨e, hb⟩ := hb
  exact call_pure h ha hb
/-- a loop that looks for a bad one -/
theorem forS_seek {i : Nat} {b : Env → Mem → SRes} {M : Mem} {r : D} (p : D → Bool) : ∀ (xs : List D) (env : Env), (∀ x ∈ xs, ∀ e, e = env ∨ (∃ y, e = env.set i (some y)) → b (e.set i (some x)) M = if p x = true then some (.nx, e.set i (some x), M) else some (.ret r, e.set i (some x), M)) →
    (xs.all p = true → ∃ e, (e = env ∨ ∃ y, e = env.set i (some y)) ∧ forS (.nm i) b xs env M = some (.nx, e, M)) ∧ (xs.all p = false → ∃ e, forS (.nm i) b xs env M = some (.ret r, e, M))
  | [], env, _ => ⟨fun _ => ⟨env, .inl rfl, rfl⟩, fun h => by cases h⟩
  | x :: xs, env, h => by
    have h0 := h x (List.mem_cons_self ..) env (.inl rfl)
    have ih := forS_seek p xs (env.set i (some x)) (fun y hy e he => h y (List.mem_cons_of_mem _ hy) e (by
      rcases he with rfl | ⟨z, rfl⟩
      · exact .inr ⟨x, rfl⟩
      · exact .inr ⟨z, by rw [List.set_set]⟩))
    have hf : forS (.nm i) b (x :: xs) env M = match b (env.set i (some x)) M with
      | some (.nx, e, M) => forS (.nm i) b xs e M
      | some (.cont, e, M) => forS (.nm i) b xs e M
      | some (.brk, e, M) => some (.nx, e, M)
      | r => r := rfl
    rw [hf, h0]
    cases hp : p x with
    | false =>
      rw [if_neg Bool.false_ne_true]
      refine ⟨fun h => ?_, fun _ => ⟨_, rfl⟩⟩
      rw [List.all_cons, hp] at h; cases h
    | true =>
      rw [if_pos rfl]
      refine ⟨fun h => ?_, fun h => ?_⟩
      · rw [List.all_cons, hp, Bool.true_and] at h
        obtain ⟨e, he, hq⟩ := ih.1 h
        refine ⟨e, ?_, hq⟩
        rcases he with rfl | ⟨z, rfl⟩
        · exact .inr ⟨x, rfl⟩
        · exact .inr ⟨z, by rw [List.set_set]⟩
      · rw [List.all_cons, hp, Bool.true_and] at h
        exact ih.2 h
section
variable {k j n : Nat} {M : Mem}
def isTape : D → Bool
  | .tup [x, y] => isP 0 1 2 1 x && isP 49 50 51 50 y
  | _ => false
def isW : D → Bool
  | .tup [.tup ts, p, s] => (decide ((ts.length : Int) = 1) || decide ((ts.length : Int) = 2)) && (ts.all isTape && (isP 0 1 1 2 p && isP 0 1 1 2 s))
  | _ => false
theorem isTape_T {d : D} (h : isT 2 d = false) : isTape d = false := by
  unfold isTape
  split
  · cases h
  · rfl
theorem is_tape_eq {d : D} (h : okD k j d = true) (hk : k ≤ 1000) : callN gi.tab (n + 6) 11 [d] M = ok (.bl (isTape d)) M := by
  refine call_pure (fd := f_is_tape.fd) (e := [some d]) rfl rfl ?_
  show exs _ b_is_tape [some d] M = _
  have ht := is_tuple_of_eq (n := n + 4) (M := M) (m := 2) h
  cases ht2 : isT 2 d with
  | false =>
    rw [ht2] at ht
    simp [b_is_tape, ht, isTape_T ht2]
  | true =>
    rw [ht2] at ht
    obtain ⟨x, y, rfl⟩ := isT2 ht2
    obtain ⟨j', rfl, _, hx⟩ := okD_tup h
    have f1 := are_bounds_eq (n := n) (M := M) (la := 0) (lb := 1) (ha := 2) (hb := 1) (hx x (by simp)) hk (by decide) (by decide) (by decide) (by decide)
    have f2 := are_bounds_eq (n := n) (M := M) (la := 49) (lb := 50) (ha := 51) (hb := 50) (hx y (by simp)) hk (by decide) (by decide) (by decide) (by decide)
    cases g : isP 0 1 2 1 x <;> rw [g] at f1 <;> simp [b_is_tape, ht, idx0, idx1, two, f1, f2, isTape, g]
theorem isT3 {d : D} (h : isT 3 d = true) : ∃ x y z, d = .tup [x, y, z] := by
  cases d <;> first | (cases h; done) | skip
  rename_i xs
  have hl : (xs.length : Int) = 3 := of_decide_eq_true h
  rcases xs with _ | ⟨x, _ | ⟨y, _ | ⟨z, _ | ⟨w, r⟩⟩⟩⟩
  · simp at hl
  · simp at hl
  · simp at hl
  · exact ⟨x, y, z, rfl⟩
  · simp at hl; omega
theorem isW_T {d : D} (h : isT 3 d = false) : isW d = false := by
  unfold isW
  split
  · cases h
  · rfl
theorem jdx0 {x y z : D} : eIdx M (.tup [x, y, z]) (.int 0) = some x := rfl
theorem jdx1 {x y z : D} : eIdx M (.tup [x, y, z]) (.int 1) = some y := rfl
theorem jdx2 {x y z : D} : eIdx M (.tup [x, y, z]) (.int 2) = some z := rfl
theorem nin12T {l : Int} : eCo .nin (.int l) (.tup [.int 1, .int 2]) = some (!(decide (l = 1) || decide (l = 2))) := by
  show some (!((1 == l) || ((2 == l) || false))) = _
  rw [Bool.or_false]
  by_cases h1 : l = 1
  · subst h1; rfl
  · by_cases h2 : l = 2
    · subst h2; rfl
    · have h1' : ¬ (1 : Int) = l := fun h => h1 h.symm
      have h2' : ¬ (2 : Int) = l := fun h => h2 h.symm
      simp [h1, h2, h1', h2']
theorem nin12L {l : Int} : eCo .nin (.int l) (.lst [.int 1, .int 2]) = some (!(decide (l = 1) || decide (l = 2))) := nin12T
theorem isW_1 {x y z : D} (h : isTy .tuple x = some false) : isW (.tup [x, y, z]) = false := by
  cases x <;> first | rfl | cases h
theorem is_world_eq {d : D} (h : okD k j d = true) (hk : k ≤ 500) : callN gi.tab (n + 7) 12 [d] M = ok (.bl (isW d)) M := by
  refine call_ex (fd := f_is_world.fd) rfl rfl ⟨[some d, none], ?_⟩
  show exs _ b_is_world [some d, none] M = _
  have ht := is_tuple_of_eq (n := n + 5) (M := M) (m := 3) h
  cases ht2 : isT 3 d with
  | false =>
    rw [ht2] at ht
    simp [b_is_world, ht, isW_T ht2]
  | true =>
    rw [ht2] at ht
    obtain ⟨x, y, z, rfl⟩ := isT3 ht2
    obtain ⟨j', rfl, _, hx⟩ := okD_tup h
    have h1 := hx x (by simp)
    have ty := ty_tup h1
    by_cases hxt : ∃ ts, x = .tup ts
    · obtain ⟨ts, rfl⟩ := hxt
      obtain ⟨j'', rfl, hl, hts⟩ := okD_tup h1
      have f1 := are_bounds_eq (n := n + 1) (M := M) (la := 0) (lb := 1) (ha := 1) (hb := 2) (hx y (by simp)) (by omega) (by decide) (by decide) (by decide) (by decide)
      have f2 := are_bounds_eq (n := n + 1) (M := M) (la := 0) (lb := 1) (ha := 1) (hb := 2) (hx z (by simp)) (by omega) (by decide) (by decide) (by decide) (by decide)
      have hlc := ev_lc_of (cl := callN gi.tab (n + 6)) (env := [some (.tup [.tup ts, y, z]), none]) (M := M) (e := .call 11 (.cons (.var 1) .nil) []) (i := 1) (it := .seq (.idx (.var 0) (.con (.int (0))))) (xs := ts) (fun t => .bl (isTape t))
        (by simp [jdx0]) (sz (by omega)) (by intro t ht; have f := is_tape_eq (n := n) (M := M) (hts t ht) (by omega); simp [f])
      by_cases g : (ts.length : Int) = 1 ∨ (ts.length : Int) = 2
      · have g' : (decide ((ts.length : Int) = 1) || decide ((ts.length : Int) = 2)) = true := by simpa using g
        cases g2 : ts.all isTape with
        | false => simp [b_is_world, ht, jdx0, jdx1, jdx2, isTy, two, nin12T, g', hlc, bAll_map, g2, isW]
        | true =>
          cases g3 : isP 0 1 1 2 y <;> rw [g3] at f1 <;> simp [b_is_world, ht, jdx0, jdx1, jdx2, isTy, two, nin12T, g', hlc, bAll_map, g2, isW, f1, f2, g3]
      · have g' : (decide ((ts.length : Int) = 1) || decide ((ts.length : Int) = 2)) = false := by simpa using g
        simp [b_is_world, ht, jdx0, jdx1, jdx2, isTy, two, nin12T, g', isW]
    · have : isTy .tuple x = some false := by
        rw [ty]
        cases x <;> first | rfl | exact absurd ⟨_, rfl⟩ hxt
      simp [b_is_world, ht, jdx0, this, isW_1 this]
end
end KK
end Rf
end T_K01Me
section T_K01Mf
set_option Elab.async false
set_option linter.all false
set_option maxRecDepth 100000
set_option maxHeartbeats 1000000
namespace Rf
namespace KK
open PySem L2
section
variable {k j n : Nat} {M : Mem}
theorem tyT {xs : List D} : isTy .tuple (.tup xs) = some true := rfl
def tapeBody : List CS :=
    [.ite (.or (.not (.isi (.var 1) .tuple)) (.or (.cmp .ne (.bi .len (.cons (.var 1) .nil)) (.con (.int (2)))) (.not (.call 46 (.cons (.idx (.var 1) (.con (.int (0)))) (.cons (.tup (.cons (.con (.int (0))) (.cons (.con (.int (1))) .nil))) (.cons (.tup (.cons (.con (.int (2))) (.cons (.con (.int (1))) .nil))) .nil))) []))))
    [.ret (.con (.bl false))]
    [],
    .ite (.not (.call 46 (.cons (.idx (.var 1) (.con (.int (1)))) (.cons (.tup (.cons (.con (.int (49))) (.cons (.con (.int (50))) .nil))) (.cons (.tup (.cons (.con (.int (51))) (.cons (.con (.int (50))) .nil))) .nil))) []))
    [.ret (.con (.bl false))]
    []]
theorem tapeBody_eq {d : D} {w : Option D} (h : okD k j d = true) (hk : k ≤ 500) (hj : j ≤ 60) : exs (callN gi.tab (n + 3)) tapeBody [w, some d] M = if isTape d = true then some (.nx, [w, some d], M) else some (.ret (.bl false), [w, some d], M) := by
  cases ht : isT 2 d with
  | false =>
    rw [isTape_T ht]
    rcases ty_len h ht with h1 | ⟨xs, rfl, h1⟩
    · simp [tapeBody, h1]
    · simp [tapeBody, isTy, h1]
  | true =>
    obtain ⟨x, y, rfl⟩ := isT2 ht
    obtain ⟨j', rfl, _, hx⟩ := okD_tup h
    have f1 := law_is_pair_eq (n := n) (M := M) (la := 0) (lb := 1) (ha := 2) (hb := 1) (hx x (by simp)) hk (by omega) (by decide) (by decide) (by decide) (by decide)
    have f2 := law_is_pair_eq (n := n) (M := M) (la := 49) (lb := 50) (ha := 51) (hb := 50) (hx y (by simp)) hk (by omega) (by decide) (by decide) (by decide) (by decide)
    cases g1 : isP 0 1 2 1 x <;> cases g2 : isP 49 50 51 50 y <;> rw [g1] at f1 <;> rw [g2] at f2 <;> simp [tapeBody, isTy, idx0, idx1, two, f1, f2, isTape, g1, g2]
theorem law_is_world_eq {d : D} (h : okD k j d = true) (hk : k ≤ 500) (hj : j ≤ 60) : callN gi.tab (n + 4) 47 [d] M = ok (.bl (isW d)) M := by
  refine call_ex (fd := f__law_is_world.fd) rfl rfl ?_
  show ∃ e, exs _ b__law_is_world [some d, none] M = _
  cases ht : isT 3 d with
  | false =>
    rw [isW_T ht]
    refine ⟨[some d, none], ?_⟩
    rcases ty_len h ht with h1 | ⟨xs, rfl, h1⟩
    · simp [b__law_is_world, h1]
    · simp [b__law_is_world, isTy, h1]
  | true =>
    obtain ⟨x, y, z, rfl⟩ := isT3 ht
    obtain ⟨j', rfl, _, hx⟩ := okD_tup h
    have h1 := hx x (by simp)
    have ty := ty_tup h1
    by_cases hxt : ∃ ts, x = .tup ts
    · obtain ⟨ts, rfl⟩ := hxt
      obtain ⟨j'', rfl, hl, hts⟩ := okD_tup h1
      have f1 := law_is_pair_eq (n := n) (M := M) (la := 0) (lb := 1) (ha := 1) (hb := 2) (hx y (by simp)) hk (by omega) (by decide) (by decide) (by decide) (by decide)
      have f2 := law_is_pair_eq (n := n) (M := M) (la := 0) (lb := 1) (ha := 1) (hb := 2) (hx z (by simp)) hk (by omega) (by decide) (by decide) (by decide) (by decide)
      by_cases g : (ts.length : Int) = 1 ∨ (ts.length : Int) = 2
      · have g' : (decide ((ts.length : Int) = 1) || decide ((ts.length : Int) = 2)) = true := by simpa using g
        have hs := forS_seek (i := 1) (b := exs (callN gi.tab (n + 3)) tapeBody) (M := M) (r := .bl false) isTape ts [some (.tup [.tup ts, y, z]), none] (by
          intro t ht e he
          have : e.set 1 (some t) = [some (.tup [.tup ts, y, z]), some t] := by rcases he with rfl | ⟨w, rfl⟩ <;> rfl
          rw [this]
          exact tapeBody_eq (hts t ht) hk (by omega))
        cases g2 : ts.all isTape with
        | false =>
          obtain ⟨e, he⟩ := hs.2 g2
          refine ⟨e, ?_⟩
          unfold tapeBody at he
          simp [b__law_is_world, jdx0, isTy, two, nin12L, g', he, g2, isW]
        | true =>
          obtain ⟨e, hc, he⟩ := hs.1 g2
          refine ⟨e, ?_⟩
          have he0 : ∃ w, e = [some (.tup [.tup ts, y, z]), w] := by rcases hc with rfl | ⟨w, rfl⟩ <;> exact ⟨_, rfl⟩
          obtain ⟨w, rfl⟩ := he0
          unfold tapeBody at he
          cases g3 : isP 0 1 1 2 y <;> rw [g3] at f1 <;> simp [b__law_is_world, jdx0, jdx1, jdx2, isTy, two, nin12L, g', he, g2, isW, f1, f2, g3]
      · have g' : (decide ((ts.length : Int) = 1) || decide ((ts.length : Int) = 2)) = false := by simpa using g
        exact ⟨[some (.tup [.tup ts, y, z]), none], by simp [b__law_is_world, jdx0, isTy, two, nin12L, g', isW]⟩
    · have : isTy .tuple x = some false := by
        rw [ty]
        cases x <;> first | rfl | exact absurd ⟨_, rfl⟩ hxt
      exact ⟨[some (.tup [x, y, z]), none], by simp [b__law_is_world, tyT, jdx0, this, isW_1 this]⟩
/-- the bounds of a world -/
def flatT : List D → List D
  | .tup [x, y] :: r => x :: y :: flatT r
  | _ => []
def rim : D → List D
  | .tup [.tup ts, p, s] => flatT ts ++ [p, s]
  | _ => []
def rimBody : List CS := [.asg (.nm 1) (.bin .add (.var 1) (.lst (.cons (.var 2) (.cons (.var 3) .nil))))]
theorem rim_loop {cl : Calls} {w : D} : ∀ (ts acc : List D) (u0 v0 : Option D), ts.all isTape = true → acc.length + 2 * ts.length ≤ 1000 →
    ∃ u v, forS (.tp (.cons (.nm 2) (.cons (.nm 3) .nil))) (exs cl rimBody) ts [some w, some (.lst acc), u0, v0] M = some (.nx, [some w, some (.lst (acc ++ flatT ts)), u, v], M)
  | [], acc, u0, v0, _, _ => ⟨u0, v0, by rw [show flatT [] = [] from rfl, List.append_nil]; rfl⟩
  | t :: ts, acc, u0, v0, h, hl => by
    rw [List.all_cons, Bool.and_eq_true] at h
    obtain ⟨x, y, rfl⟩ : ∃ x y, t = .tup [x, y] := by
      have h1 := h.1
      unfold isTape at h1
      split at h1
      · exact ⟨_, _, rfl⟩
      · cases h1
    rw [List.length_cons] at hl
    obtain ⟨u, v, ih⟩ := rim_loop ts (acc ++ [x, y]) (some x) (some y) h.2 (by simp; omega)
    refine ⟨u, v, ?_⟩
    have ha : eOp M .add (.lst acc) (.lst [x, y]) = some (.lst (acc ++ [x, y])) := if_pos (sz (xs := acc ++ [x, y]) (by simp; omega) |> fun h => by simpa using h)
    have hb : exs cl rimBody [some w, some (.lst acc), some x, some y] M = some (.nx, [some w, some (.lst (acc ++ [x, y])), some x, some y], M) := by
      simp [rimBody, two, ha]
    show (match exs cl rimBody [some w, some (.lst acc), some x, some y] M with
      | some (.nx, e, M) => forS _ _ ts e M
      | some (.cont, e, M) => forS _ _ ts e M
      | some (.brk, e, M) => some (.nx, e, M)
      | r => r) = _
    rw [hb]
    show forS _ _ ts _ M = _
    rw [ih, List.append_assoc]
    rfl
theorem isW_eq {d : D} (h : isW d = true) : ∃ ts p s, d = .tup [.tup ts, p, s] ∧ (ts.length = 1 ∨ ts.length = 2) ∧ ts.all isTape = true ∧ isP 0 1 1 2 p = true ∧ isP 0 1 1 2 s = true := by
  unfold isW at h
  split at h
  · rw [Bool.and_eq_true, Bool.and_eq_true, Bool.and_eq_true, Bool.or_eq_true] at h
    refine ⟨_, _, _, rfl, ?_, h.2.1, h.2.2.1, h.2.2.2⟩
    rcases h.1 with h | h
    · have := of_decide_eq_true h; omega
    · have := of_decide_eq_true h; omega
  · cases h
theorem flatT_len : ∀ {ts : List D}, ts.all isTape = true → (flatT ts).length = 2 * ts.length
  | [], _ => rfl
  | t :: ts, h => by
    rw [List.all_cons, Bool.and_eq_true] at h
    obtain ⟨x, y, rfl⟩ : ∃ x y, t = .tup [x, y] := by
      have h1 := h.1
      unfold isTape at h1
      split at h1
      · exact ⟨_, _, rfl⟩
      · cases h1
    show (x :: y :: flatT ts).length = _
    simp [flatT_len h.2]
    omega
theorem bounds_of_eq {w : D} (h : isW w = true) : callN gi.tab (n + 1) 13 [w] M = ok (.lst (rim w)) M := by
  obtain ⟨ts, p, s, rfl, hl, ht, _, _⟩ := isW_eq h
  refine call_ex (fd := f_bounds_of.fd) rfl rfl ?_
  show ∃ e, exs _ b_bounds_of [some (.tup [.tup ts, p, s]), none, none, none] M = _
  obtain ⟨u, v, hq⟩ := rim_loop (M := M) (cl := callN gi.tab n) (w := .tup [.tup ts, p, s]) ts [] none none ht (by simp; omega)
  refine ⟨[some (.tup [.tup ts, p, s]), some (.lst (flatT ts)), u, v], ?_⟩
  rw [List.nil_append] at hq
  unfold rimBody at hq
  have hf := flatT_len ht
  have ha : eOp M .add (.lst (flatT ts)) (.lst [p, s]) = some (.lst (flatT ts ++ [p, s])) := if_pos (sz (xs := flatT ts ++ [p, s]) (by simp; omega) |> fun h => by simpa using h)
  simp [b_bounds_of, jdx0, jdx1, jdx2, hq, two, ha, rim]
theorem law_rim_eq {w : D} (h : isW w = true) : callN gi.tab (n + 1) 38 [w] M = ok (.lst (rim w)) M := by
  obtain ⟨ts, p, s, rfl, hl, ht, _, _⟩ := isW_eq h
  refine call_ex (fd := f__law_rim.fd) rfl rfl ?_
  show ∃ e, exs _ b__law_rim [some (.tup [.tup ts, p, s]), none, none, none] M = _
  obtain ⟨u, v, hq⟩ := rim_loop (M := M) (cl := callN gi.tab n) (w := .tup [.tup ts, p, s]) ts [] none none ht (by simp; omega)
  refine ⟨[some (.tup [.tup ts, p, s]), some (.lst (flatT ts)), u, v], ?_⟩
  rw [List.nil_append] at hq
  unfold rimBody at hq
  have hf := flatT_len ht
  have ha : eOp M .add (.lst (flatT ts)) (.lst [p, s]) = some (.lst (flatT ts ++ [p, s])) := if_pos (sz (xs := flatT ts ++ [p, s]) (by simp; omega) |> fun h => by simpa using h)
  simp [b__law_rim, jdx0, jdx1, jdx2, hq, two, ha, rim]
end
end KK
end Rf
end T_K01Mf
section T_K01Mg
set_option Elab.async false
set_option linter.all false
set_option maxRecDepth 100000
set_option maxHeartbeats 1000000
namespace Rf
namespace KK
open PySem L2
/-- a loop that looks for a bad one, by an invariant -/
theorem forS_inv {tg : Tg} {b : Env → Mem → SRes} {M : Mem} {r : D} (p : D → Bool) (I : Env → Prop) : ∀ (xs : List D) (env : Env), I env →
    (∀ x ∈ xs, ∀ e, I e → ∃ e1 e2, asT tg x e = some e1 ∧ I e2 ∧ b e1 M = if p x = true then some (.nx, e2, M) else some (.ret r, e2, M)) →
    (xs.all p = true → ∃ e, I e ∧ forS tg b xs env M = some (.nx, e, M)) ∧ (xs.all p = false → ∃ e, forS tg b xs env M = some (.ret r, e, M))
  | [], env, hI, _ => ⟨fun _ => ⟨env, hI, rfl⟩, fun h => by cases h⟩
  | x :: xs, env, hI, h => by
    obtain ⟨e1, e2, h1, h2, h3⟩ := h x (List.mem_cons_self ..) env hI
    have ih := forS_inv p I xs e2 h2 fun y hy => h y (List.mem_cons_of_mem _ hy)
    have hf : forS tg b (x :: xs) env M = match b e1 M with
      | some (.nx, e, M) => forS tg b xs e M
      | some (.cont, e, M) => forS tg b xs e M
      | some (.brk, e, M) => some (.nx, e, M)
      | r => r := by
      show (match asT tg x env with
        | none => none
        | some env => match b env M with
          | some (.nx, e, M) => forS tg b xs e M
          | some (.cont, e, M) => forS tg b xs e M
          | some (.brk, e, M) => some (.nx, e, M)
          | r => r) = _
      rw [h1]
    rw [hf, h3, List.all_cons]
    cases hp : p x with
    | false =>
      rw [if_neg Bool.false_ne_true]
      exact ⟨fun h => (by cases h), fun _ => ⟨_, rfl⟩⟩
    | true =>
      rw [if_pos rfl, Bool.true_and]
      exact ⟨fun h => ih.1 h, fun h => ih.2 h⟩
theorem ev_lc_tg {cl : Calls} {env : Env} {M : Mem} {e : CE} {tg : Tg} {it : CI} {xs : List D} (f : D → D) (hi : evI cl it env M = ok xs M) (hl : xs.length ≤ sizeLine)
    (he : ∀ x ∈ xs, ∃ env', asT tg x (wipeE env tg.slots) = some env' ∧ ev cl e env' M = ok (f x) M) : ev cl (.lc e tg it) env M = ok (.lst (xs.map f)) M := by
  unfold ev
  rw [hi]
  show (lcL _ xs M []).bind _ = _
  rw [lcL_map f]
  · show (if (List.nil ++ xs.map f).length ≤ sizeLine then ok (D.lst (List.nil ++ xs.map f)) M else none) = _
    rw [List.nil_append, if_pos (by rw [List.length_map]; exact hl)]
  · intro x hx
    obtain ⟨env', h1, h2⟩ := he x hx
    simp only [h1, h2]
    rfl
section
variable {k j n : Nat} {M : Mem}
def btw : D → D → Bool
  | .tup [.int a, .int b], .tup [.tup [.int la, .int lb], .tup [.int ha, .int hb]] => !decide (a * lb < la * b) && !decide (ha * b < a * hb)
  | _, _ => false
def pr (p : D → D → Bool) : D → Bool
  | .tup [x, y] => p x y
  | _ => false
def isV (w : D) : D → Bool
  | .tup xs => decide (xs.length = (rim w).length) && (xs.all (isF M30) && (zipD xs (rim w)).all (pr btw))
  | _ => false
structure RimOk (r : D) : Prop where
  ex : ∃ la lb ha hb : Int, r = .tup [.tup [.int la, .int lb], .tup [.int ha, .int hb]] ∧ la.natAbs < 2 ^ 250 ∧ lb.natAbs < 2 ^ 250 ∧ ha.natAbs < 2 ^ 250 ∧ hb.natAbs < 2 ^ 250
theorem rimOk_of {a b c d : Int} {x : D} (h : isP a b c d x = true) : RimOk x := by
  obtain ⟨u, v, rfl, h1, h2⟩ := isP_eq h
  obtain ⟨a, b, rfl, hb1, _, ha5, hb6⟩ := isF_eq h1
  obtain ⟨c, e, rfl, he1, _, hc5, he6⟩ := isF_eq h2
  exact ⟨_, _, _, _, rfl, s30 ha5, s30' hb1 hb6, s30 hc5, s30' he1 he6⟩
theorem flatT_ok : ∀ {ts : List D}, ts.all isTape = true → ∀ r ∈ flatT ts, RimOk r
  | [], _, r, h => by cases h
  | t :: ts, h, r, hr => by
    rw [List.all_cons, Bool.and_eq_true] at h
    have h1 := h.1
    unfold isTape at h1
    split at h1
    · rename_i x y
      rw [Bool.and_eq_true] at h1
      rcases List.mem_cons.mp hr with rfl | hr
      · exact rimOk_of h1.1
      · rcases List.mem_cons.mp hr with rfl | hr
        · exact rimOk_of h1.2
        · exact flatT_ok h.2 r hr
    · cases h1
theorem rim_ok {w : D} (h : isW w = true) : ∀ r ∈ rim w, RimOk r := by
  obtain ⟨ts, p, s, rfl, _, ht, hp, hs⟩ := isW_eq h
  intro r hr
  rcases List.mem_append.mp hr with hr | hr
  · exact flatT_ok ht r hr
  · rcases List.mem_cons.mp hr with rfl | hr
    · exact rimOk_of hp
    · rcases List.mem_cons.mp hr with rfl | hr
      · exact rimOk_of hs
      · cases hr
theorem rim_len {w : D} (h : isW w = true) : (rim w).length ≤ 6 := by
  obtain ⟨ts, p, s, rfl, hl, ht, hp, hs⟩ := isW_eq h
  show (flatT ts ++ [p, s]).length ≤ 6
  rw [List.length_append, flatT_len ht]
  rcases hl with h | h <;> rw [h] <;> simp
theorem many_of_eq {w : D} (h : isW w = true) : callN gi.tab (n + 1) 15 [w] M = ok (.int (rim w).length) M := by
  obtain ⟨ts, p, s, rfl, hl, ht, _, _⟩ := isW_eq h
  refine call_ex (fd := f_many_of.fd) rfl rfl ⟨[some (.tup [.tup ts, p, s])], ?_⟩
  show exs _ b_many_of [some (.tup [.tup ts, p, s])] M = _
  have hm : eOp M .mul (.int 2) (.int (ts.length : Int)) = some (.int (2 * (ts.length : Int))) := eMul (by decide) (by
    have : (2 : Nat) < 2 ^ 250 := by decide
    omega)
  have hr : ((rim (.tup [.tup ts, p, s])).length : Int) = 2 * (ts.length : Int) + 2 := by
    show ((flatT ts ++ [p, s]).length : Int) = _
    rw [List.length_append, flatT_len ht]
    simp
  rw [hr]
  simp [b_many_of, jdx0, hm]
theorem is_between_eq {x r : D} (hx : isF M30 x = true) (hr : RimOk r) {lo hi : D} (he : r = .tup [lo, hi]) : callN gi.tab (n + 2) 9 [x, lo, hi] M = ok (.bl (btw x r)) M := by
  obtain ⟨a, b, rfl, hb1, _, ha5, hb6⟩ := isF_eq hx
  obtain ⟨la, lb, ha, hb, rfl, s1, s2, s3, s4⟩ := hr.ex
  cases he
  refine call_ex (fd := f_is_between.fd) rfl rfl ⟨[some (.tup [.int a, .int b]), some (.tup [.int la, .int lb]), some (.tup [.int ha, .int hb])], ?_⟩
  show exs _ b_is_between [some (.tup [.int a, .int b]), some (.tup [.int la, .int lb]), some (.tup [.int ha, .int hb])] M = _
  have l1 := less_eq n a b la lb M (s30 ha5) (s30' hb1 hb6) s1 s2
  have l2 := less_eq n ha hb a b M s3 s4 (s30 ha5) (s30' hb1 hb6)
  by_cases g : a * lb < la * b <;> simp [b_is_between, l1, l2, g, btw]
theorem mem_zipD : ∀ {xs ys : List D} {z : D}, z ∈ zipD xs ys → ∃ x y, z = .tup [x, y] ∧ x ∈ xs ∧ y ∈ ys
  | [], _, z, h => by cases h
  | _ :: _, [], z, h => by cases h
  | x :: xs, y :: ys, z, h => by
    rcases List.mem_cons.mp h with rfl | h
    · exact ⟨x, y, rfl, List.mem_cons_self .., List.mem_cons_self ..⟩
    · obtain ⟨a, b, e, h1, h2⟩ := mem_zipD h
      exact ⟨a, b, e, List.mem_cons_of_mem _ h1, List.mem_cons_of_mem _ h2⟩
theorem zipD_len : ∀ (xs ys : List D), (zipD xs ys).length ≤ xs.length
  | [], _ => Nat.le_refl _
  | _ :: _, [] => Nat.zero_le _
  | x :: xs, y :: ys => Nat.succ_le_succ (zipD_len xs ys)
theorem zip_all {p : D → Bool} {q : D → D → Bool} : ∀ {xs ys : List D}, xs.length = ys.length → (zipD xs ys).all (pr fun x y => p x && q x y) = (xs.all p && (zipD xs ys).all (pr q))
  | [], [], _ => rfl
  | x :: xs, y :: ys, h => by
    show ((p x && q x y) && (zipD xs ys).all _) = ((p x && xs.all p) && (q x y && (zipD xs ys).all _))
    rw [zip_all (Nat.succ.inj h)]
    cases p x <;> cases q x y <;> cases xs.all p <;> rfl
  | [], _ :: _, h => by cases h
  | _ :: _, [], h => by cases h
theorem isT_len {d : D} {m : Nat} (h : isT (m : Int) d = true) : ∃ xs, d = .tup xs ∧ xs.length = m := by
  cases d <;> first | (cases h; done) | skip
  exact ⟨_, rfl, by have := of_decide_eq_true h; omega⟩
theorem isV_T {w d : D} (h : isT ((rim w).length : Int) d = false) : isV w d = false := by
  cases d <;> first | rfl | skip
  rename_i xs
  have : ¬ xs.length = (rim w).length := by
    have := of_decide_eq_false h
    omega
  show (decide (xs.length = (rim w).length) && _) = false
  rw [decide_eq_false this]; rfl
theorem is_values_of_eq {w d : D} (hw : isW w = true) (h : okD k j d = true) (hk : k ≤ 500) : callN gi.tab (n + 5) 16 [w, d] M = ok (.bl (isV w d)) M := by
  refine call_ex (fd := f_is_values_of.fd) rfl rfl ⟨[some w, some d, none, none, none], ?_⟩
  show exs _ b_is_values_of [some w, some d, none, none, none] M = _
  have hm := many_of_eq (n := n + 3) (M := M) hw
  have ht := is_tuple_of_eq (n := n + 3) (M := M) (m := ((rim w).length : Int)) h
  cases ht2 : isT ((rim w).length : Int) d with
  | false =>
    rw [ht2] at ht
    simp [b_is_values_of, hm, ht, isV_T ht2]
  | true =>
    rw [ht2] at ht
    obtain ⟨xs, rfl, hl⟩ := isT_len ht2
    obtain ⟨j', rfl, hlen, hx⟩ := okD_tup h
    have hlc := ev_lc_of (cl := callN gi.tab (n + 4)) (env := [some w, some (.tup xs), none, none, none]) (M := M) (e := .call 8 (.cons (.var 2) (.cons (.con k_MOST_PART) .nil)) []) (i := 2) (it := .seq (.var 1)) (xs := xs) (fun t => .bl (isF M30 t))
        (by simp) (sz (by omega)) (by intro t ht; have f := is_fraction_eq (n := n) (M := M) (m := M30) (hx t ht) (by omega); simp [f, k_MOST_PART])
    have hv : isV w (.tup xs) = (xs.all (isF M30) && (zipD xs (rim w)).all (pr btw)) := by
      show (decide (xs.length = (rim w).length) && _) = _
      rw [decide_eq_true hl]; rfl
    rw [hv]
    cases g : xs.all (isF M30) with
    | false => simp [b_is_values_of, hm, ht, hlc, bAll_map, g]
    | true =>
      have hall := List.all_eq_true.mp g
      have hbo := bounds_of_eq (n := n + 3) (M := M) hw
      have hz : evI (callN gi.tab (n + 4)) (.zip (.var 1) (.call 13 (.cons (.var 0) .nil) [])) [some w, some (.tup xs), none, none, none] M = ok (zipD xs (rim w)) M := by
        unfold evI
        simp [hbo]
      have hlc2 := ev_lc_tg (cl := callN gi.tab (n + 4)) (env := [some w, some (.tup xs), none, none, none]) (M := M) (e := .call 9 (.cons (.var 2) (.cons (.var 3) (.cons (.var 4) .nil))) [])
        (tg := .tp (.cons (.nm 2) (.cons (.tp (.cons (.nm 3) (.cons (.nm 4) .nil))) .nil))) (xs := zipD xs (rim w)) (fun t => .bl (pr btw t)) hz (sz (Nat.le_trans (zipD_len ..) (by omega))) (by
          intro t ht
          obtain ⟨x, r, rfl, h1, h2⟩ := mem_zipD ht
          have hr := rim_ok hw r h2
          obtain ⟨la, lb, ha, hb, e, _⟩ := hr.ex
          have f := is_between_eq (n := n + 2) (M := M) (hall x h1) hr e
          refine ⟨[some w, some (.tup xs), some x, some (.tup [.int la, .int lb]), some (.tup [.int ha, .int hb])], ?_, ?_⟩
          · rw [e]; rfl
          · simp [f]; rfl)
      simp [b_is_values_of, hm, ht, hlc, hlc2, bAll_map, g]
def meantBody : List CS := [.ite (.or (.not (.call 45 (.cons (.var 3) (.cons (.bin .pow (.con (.int (10))) (.con (.int (30)))) .nil)) [])) (.or (.call 35 (.cons (.var 3) (.cons (.var 4) .nil)) []) (.call 35 (.cons (.var 5) (.cons (.var 3) .nil)) [])))
    [.ret (.con (.bl false))]
    []]
theorem law_is_meant_eq {w d : D} (hw : isW w = true) (h : okD k j d = true) (hk : k ≤ 500) : callN gi.tab (n + 3) 48 [w, d] M = ok (.bl (isV w d)) M := by
  refine call_ex (fd := f__law_is_meant.fd) rfl rfl ?_
  show ∃ e, exs _ b__law_is_meant [some w, some d, none, none, none, none] M = _
  have hr := law_rim_eq (n := n + 1) (M := M) hw
  cases ht2 : isT ((rim w).length : Int) d with
  | false =>
    refine ⟨[some w, some d, some (.lst (rim w)), none, none, none], ?_⟩
    rw [isV_T ht2]
    rcases ty_len h ht2 with h1 | ⟨xs, rfl, h1⟩
    · simp [b__law_is_meant, hr, h1]
    · have h1' : ¬ xs.length = (rim w).length := by omega
      simp [b__law_is_meant, hr, tyT, h1, h1']
  | true =>
    obtain ⟨xs, rfl, hl⟩ := isT_len ht2
    obtain ⟨j', rfl, hlen, hx⟩ := okD_tup h
    have hv : isV w (.tup xs) = (zipD xs (rim w)).all (pr fun x y => isF M30 x && btw x y) := by
      rw [zip_all hl]
      show (decide (xs.length = (rim w).length) && _) = _
      rw [decide_eq_true hl]; rfl
    rw [hv]
    have hs := forS_inv (tg := .tp (.cons (.nm 3) (.cons (.tp (.cons (.nm 4) (.cons (.nm 5) .nil))) .nil))) (b := exs (callN gi.tab (n + 2)) meantBody) (M := M) (r := .bl false) (pr fun x y => isF M30 x && btw x y)
      (fun e => ∃ a b c, e = [some w, some (.tup xs), some (.lst (rim w)), a, b, c]) (zipD xs (rim w)) [some w, some (.tup xs), some (.lst (rim w)), none, none, none] ⟨_, _, _, rfl⟩ (by
        intro t ht e he
        obtain ⟨x, r, rfl, h1, h2⟩ := mem_zipD ht
        obtain ⟨la, lb, ha, hb, rfl, s1, s2, s3, s4⟩ := (rim_ok hw r h2).ex
        obtain ⟨u1, u2, u3, rfl⟩ := he
        refine ⟨[some w, some (.tup xs), some (.lst (rim w)), some x, some (.tup [.int la, .int lb]), some (.tup [.int ha, .int hb])], [some w, some (.tup xs), some (.lst (rim w)), some x, some (.tup [.int la, .int lb]), some (.tup [.int ha, .int hb])], rfl, ⟨_, _, _, rfl⟩, ?_⟩
        have f := law_is_part_eq (n := n) (M := M) (m := M30) (hx x h1) (by omega)
        show exs _ meantBody _ M = if (isF M30 x && btw x _) = true then _ else _
        cases g : isF M30 x with
        | false =>
          rw [g] at f
          simp [meantBody, pow30, f]
        | true =>
          rw [g] at f
          obtain ⟨a, b, rfl, hb1, _, ha5, hb6⟩ := isF_eq g
          have l1 := lawless_eq (n + 1) a b la lb M (s30 ha5) (s30' hb1 hb6) s1 s2
          have l2 := lawless_eq (n + 1) ha hb a b M s3 s4 (s30 ha5) (s30' hb1 hb6)
          by_cases g1 : a * lb < la * b
          · simp [meantBody, pow30, f, l1, g1, btw]
          · by_cases g2 : ha * b < a * hb <;> simp [meantBody, pow30, f, l1, l2, g1, g2, btw])
    have hz : evI (callN gi.tab (n + 2)) (.zip (.var 1) (.var 2)) [some w, some (.tup xs), some (.lst (rim w)), none, none, none] M = ok (zipD xs (rim w)) M := by
      unfold evI
      simp
    unfold meantBody at hs
    cases g : (zipD xs (rim w)).all (pr fun x y => isF M30 x && btw x y) with
    | false =>
      obtain ⟨e, he⟩ := hs.2 g
      refine ⟨e, ?_⟩
      simp [b__law_is_meant, hr, tyT, hl, hz, he]
    | true =>
      obtain ⟨e, ⟨u1, u2, u3, rfl⟩, he⟩ := hs.1 g
      refine ⟨[some w, some (.tup xs), some (.lst (rim w)), u1, u2, u3], ?_⟩
      simp [b__law_is_meant, hr, tyT, hl, hz, he]
end
end KK
end Rf
end T_K01Mg
section T_K01Mh
set_option Elab.async false
set_option linter.all false
set_option maxRecDepth 100000
set_option maxHeartbeats 1000000
namespace Rf
namespace KK
open PySem L2
theorem call_nx {T : Tab} {n f : Nat} {fd : Fd} {args : List D} {M : Mem} (h : T f = some fd) (ha : args.length = fd.arity)
    (hb : ∃ e, exs (callN T n) fd.body (args.map some ++ List.replicate (fd.slots - args.length) none) M = some (.nx, e, M)) : callN T (n + 1) f args M = ok .non M := by
  obtain ⟨e, hb⟩ := hb
  rw [callN_at h]
  unfold runF
  rw [if_pos ha, hb]
  exact leave_same
theorem evJ_cons {cl : Calls} {e : CE} {es : CEs} {acc y : Str} {env : Env} {M : Mem} (h : ev cl e env M = ok (.str y) M) (hl : (acc ++ y).length ≤ sizeLine) : evJ cl (.cons e es) acc env M = evJ cl es (acc ++ y) env M := by
  show (ev cl e env M).bind _ = _
  rw [h]
  show (if (acc ++ y).length ≤ sizeLine then _ else _) = _
  rw [if_pos hl]
section
variable {k j n : Nat} {M : Mem}
theorem need_world_eq {w : D} (h : okD k j w = true) (hw : isW w = true) (hk : k ≤ 500) : callN gi.tab (n + 8) 24 [w] M = ok .non M := by
  refine call_nx (fd := f_need_world.fd) rfl rfl ⟨[some w], ?_⟩
  show exs _ b_need_world [some w] M = _
  have := is_world_eq (n := n) (M := M) h hk
  rw [hw] at this
  simp [b_need_world, this]
theorem is_values_eq {w d : D} (h0 : okD k j w = true) (hw : isW w = true) (h : okD k j d = true) (hk : k ≤ 500) : callN gi.tab (n + 9) 25 [w, d] M = ok (.bl (isV w d)) M := by
  refine call_ex (fd := f_is_values.fd) rfl rfl ⟨[some w, some d], ?_⟩
  show exs _ b_is_values [some w, some d] M = _
  have h1 := need_world_eq (n := n) (M := M) h0 hw hk
  have h2 := is_values_of_eq (n := n + 3) (M := M) hw h hk
  simp [b_is_values, h1, h2]
def names (w : D) : D := match w with
  | .tup (.tup [_] :: _) => .lst [.str "lack0", .str "factor0", .str "pencil", .str "saw"]
  | _ => .lst [.str "lack0", .str "factor0", .str "lack1", .str "factor1", .str "pencil", .str "saw"]
theorem lack0 {cl : Calls} {a b : Option D} : ev cl (.fstr (.cons (.con (.str "lack")) (.cons (.fmt (.var 2)) .nil))) [a, b, some (.int 0)] M = ok (.str "lack0") M := by
  show evJ cl _ Str.empty _ M = _
  rw [evJ_cons rfl (line1 _ (by decide)), evJ_cons (y := "0") rfl (line1 _ (by decide))]
  rfl
theorem lack1 {cl : Calls} {a b : Option D} : ev cl (.fstr (.cons (.con (.str "lack")) (.cons (.fmt (.var 2)) .nil))) [a, b, some (.int 1)] M = ok (.str "lack1") M := by
  show evJ cl _ Str.empty _ M = _
  rw [evJ_cons rfl (line1 _ (by decide)), evJ_cons (y := "1") rfl (line1 _ (by decide))]
  rfl
theorem factor0 {cl : Calls} {a b : Option D} : ev cl (.fstr (.cons (.con (.str "factor")) (.cons (.fmt (.var 2)) .nil))) [a, b, some (.int 0)] M = ok (.str "factor0") M := by
  show evJ cl _ Str.empty _ M = _
  rw [evJ_cons rfl (line1 _ (by decide)), evJ_cons (y := "0") rfl (line1 _ (by decide))]
  rfl
theorem factor1 {cl : Calls} {a b : Option D} : ev cl (.fstr (.cons (.con (.str "factor")) (.cons (.fmt (.var 2)) .nil))) [a, b, some (.int 1)] M = ok (.str "factor1") M := by
  show evJ cl _ Str.empty _ M = _
  rw [evJ_cons rfl (line1 _ (by decide)), evJ_cons (y := "1") rfl (line1 _ (by decide))]
  rfl
theorem addL {xs ys : List D} (h : xs.length + ys.length ≤ 1000) : eOp M .add (.lst xs) (.lst ys) = some (.lst (xs ++ ys)) := if_pos (Nat.le_trans h (line1 1000 (by decide)))
theorem names_of_eq {w : D} (hw : isW w = true) : callN gi.tab (n + 1) 14 [w] M = ok (names w) M := by
  obtain ⟨ts, p, s, rfl, hl, ht, _, _⟩ := isW_eq hw
  refine call_ex (fd := f_names_of.fd) rfl rfl ?_
  show ∃ e, exs _ b_names_of [some (.tup [.tup ts, p, s]), none, none] M = _
  have s0 : 0 ≤ sizeLine := line1 0 (by decide)
  rcases hl with hl | hl
  · obtain ⟨t, rfl⟩ : ∃ t, ts = [t] := by
      rcases ts with _ | ⟨t, _ | ⟨u, r⟩⟩
      · cases hl
      · exact ⟨t, rfl⟩
      · simp at hl
    refine ⟨[some (.tup [.tup [t], p, s]), some (.lst [.str "lack0", .str "factor0"]), some (.int 0)], ?_⟩
    have hI : evI (callN gi.tab n) (.rng (.bi .len (.cons (.idx (.var 0) (.con (.int (0)))) .nil))) [some (.tup [.tup [t], p, s]), some (.lst []), none] M = ok [.int 0] M := by
      unfold evI
      simp [jdx0]
      rfl
    simp [b_names_of, hI, forS, lack0, factor0, two, addL, jdx0, names]
  · obtain ⟨t, u, rfl⟩ : ∃ t u, ts = [t, u] := by
      rcases ts with _ | ⟨t, _ | ⟨u, _ | ⟨v, r⟩⟩⟩
      · cases hl
      · simp at hl
      · exact ⟨t, u, rfl⟩
      · simp at hl
    refine ⟨[some (.tup [.tup [t, u], p, s]), some (.lst [.str "lack0", .str "factor0", .str "lack1", .str "factor1"]), some (.int 1)], ?_⟩
    have hI : evI (callN gi.tab n) (.rng (.bi .len (.cons (.idx (.var 0) (.con (.int (0)))) .nil))) [some (.tup [.tup [t, u], p, s]), some (.lst []), none] M = ok [.int 0, .int 1] M := by
      unfold evI
      simp [jdx0]
      rfl
    simp [b_names_of, hI, forS, lack0, factor0, lack1, factor1, two, addL, jdx0, names]
theorem unknowns_eq {w : D} (h0 : okD k j w = true) (hw : isW w = true) (hk : k ≤ 500) : callN gi.tab (n + 9) 27 [w] M = ok (names w) M := by
  refine call_ex (fd := f_unknowns.fd) rfl rfl ⟨[some w], ?_⟩
  show exs _ b_unknowns [some w] M = _
  have h1 := need_world_eq (n := n) (M := M) h0 hw hk
  have h2 := names_of_eq (n := n + 7) (M := M) hw
  simp [b_unknowns, h1, h2]
end
end KK
end Rf
end T_K01Mh
section T_K01Mi
set_option Elab.async false
set_option linter.all false
set_option maxRecDepth 100000
set_option maxHeartbeats 2000000
namespace Rf
namespace KK
open PySem L2
section
variable {k j n : Nat} {M : Mem}
def nameL : List Str := ["a", "b", "c", "d", "e", "f"]
def isName : D → Bool
  | .str s => nameL.any fun y => y == s
  | _ => false
def isSeen : D → Bool
  | .str s => (["longer", "same", "shorter"] : List Str).any fun y => y == s
  | _ => false
theorem in_strs {ys : List Str} {s : Str} : eCo .inn (.str s) (.tup (ys.map .str)) = some (ys.any fun y => y == s) := by
  show (if (true && (ys.map D.str).all flatD) = true then some ((ys.map D.str).any fun y => eqF y (.str s)) else none) = _
  rw [if_pos (by rw [List.all_map]; exact List.all_eq_true.mpr fun _ _ => rfl), List.any_map]
  rfl
theorem is_name_eq {d : D} (h : okD k j d = true) : callN gi.tab (n + 2) 17 [d] M = ok (.bl (isName d)) M := by
  refine call_ex (fd := f_is_name.fd) rfl rfl ⟨[some d], ?_⟩
  show exs _ b_is_name [some d] M = _
  have hw : callN gi.tab (n + 1) 6 [d, k_NAMES] M = ok (.bl (isName d)) M := by
    refine call_ex (fd := f_is_word.fd) rfl rfl ⟨[some d, some k_NAMES], ?_⟩
    show exs _ b_is_word [some d, some k_NAMES] M = _
    cases d <;> first | (cases j <;> cases h; done) | (simp [b_is_word, isTy, isName]; done) | skip
    rename_i s
    have : eCo .inn (.str s) k_NAMES = some (isName (.str s)) := in_strs (ys := nameL)
    simp [b_is_word, isTy, this]
  simp [b_is_name, hw]
theorem is_seen_eq {d : D} (h : okD k j d = true) : callN gi.tab (n + 1) 6 [d, k_SEEN] M = ok (.bl (isSeen d)) M := by
  refine call_ex (fd := f_is_word.fd) rfl rfl ⟨[some d, some k_SEEN], ?_⟩
  show exs _ b_is_word [some d, some k_SEEN] M = _
  cases d <;> first | (cases j <;> cases h; done) | (simp [b_is_word, isTy, isSeen]; done) | skip
  rename_i s
  have : eCo .inn (.str s) k_SEEN = some (isSeen (.str s)) := in_strs (ys := ["longer", "same", "shorter"])
  simp [b_is_word, isTy, this]
theorem is_mark_eq {d : D} (h : okD k j d = true) : callN gi.tab (n + 3) 18 [d] M = ok (.bl (isIn 3 20 d)) M := by
  refine call_ex (fd := f_is_mark.fd) rfl rfl ⟨[some d], ?_⟩
  show exs _ b_is_mark [some d] M = _
  have := is_from_eq (n := n) (M := M) (lo := 3) (hi := 20) h
  simp [b_is_mark, this]
def neS : D → D → Bool
  | .str x, .str y => !decide (x = y)
  | _, _ => true
/-- a plain step's items; t is the last tape -/
def isPlain (t : Int) : List D → Bool
  | [.str w, a, b, c] =>
    if w = "cut" then isName a && (isIn 0 t b && isIn 3 20 c)
    else if w = "outer" ∨ w = "inner" then isName a && (isName b && isIn 1 20 c)
    else if w = "join" then isName a && (isName b && isName c)
    else false
  | [.str w, a, b] =>
    if w = "half" ∨ w = "hold" then isName a && isName b
    else if w = "read" ∨ w = "again" then isName a && isIn 0 t b
    else false
  | [.str w, a, b, c, d, e] =>
    if w = "split" then (isName a && (isName b && isName c)) && (neS a b && (isIn 0 t d && isIn 3 20 e))
    else false
  | _ => false
theorem strOk_of {s : Str} (h : okD k j (.str s) = true) : Cmp (.str s) := by
  have : okD k 0 (.str s) = true := by cases j <;> exact h
  exact okD_cmp this (by omega)
theorem atS {x : D} {xs : List D} {i : Nat} : atI (x :: xs) ((i + 1 : Nat) : Int) = xs[i]? := by
  unfold atI
  by_cases h : i < xs.length
  · have : ixN (x :: xs).length ((i + 1 : Nat) : Int) = some (i + 1) := by
      unfold ixN
      rw [if_pos (by omega), if_pos (by simp; omega)]
      rfl
    rw [this]
    rfl
  · have : ixN (x :: xs).length ((i + 1 : Nat) : Int) = none := by
      unfold ixN
      rw [if_pos (by omega), if_neg (by simp; omega)]
    rw [this, List.getElem?_eq_none (by omega)]
    rfl
end
end KK
end Rf
end T_K01Mi
section T_K01Mj
set_option Elab.async false
set_option linter.all false
set_option maxRecDepth 100000
set_option maxHeartbeats 4000000
namespace Rf
namespace KK
open PySem L2
section
variable {k j n : Nat} {M : Mem}
theorem iq0 {a : D} {r : List D} : eIdx M (.tup (a :: r)) (.int 0) = some a := ix0
theorem iq1 {a b : D} {r : List D} : eIdx M (.tup (a :: b :: r)) (.int 1) = some b := (atS (i := 0)).trans rfl
theorem iq2 {a b c : D} {r : List D} : eIdx M (.tup (a :: b :: c :: r)) (.int 2) = some c := (atS (i := 1)).trans rfl
theorem iq3 {a b c d : D} {r : List D} : eIdx M (.tup (a :: b :: c :: d :: r)) (.int 3) = some d := (atS (i := 2)).trans rfl
theorem iq4 {a b c d e : D} {r : List D} : eIdx M (.tup (a :: b :: c :: d :: e :: r)) (.int 4) = some e := (atS (i := 3)).trans rfl
theorem iq5 {a b c d e f : D} {r : List D} : eIdx M (.tup (a :: b :: c :: d :: e :: f :: r)) (.int 5) = some f := (atS (i := 4)).trans rfl
theorem in2 {a b s : Str} : eCo .inn (.str s) (.tup [.str a, .str b]) = some (decide (s = a) || decide (s = b)) := by
  have : eCo .inn (.str s) (.tup [.str a, .str b]) = some ((a == s) || ((b == s) || false)) := in_strs (ys := [a, b])
  rw [this, Bool.or_false]
  have h1 : (a == s) = decide (s = a) := by
    by_cases h : s = a
    · subst h; simp
    · have h' : ¬ a = s := fun g => h g.symm
      simp [h, h']
  have h2 : (b == s) = decide (s = b) := by
    by_cases h : s = b
    · subst h; simp
    · have h' : ¬ b = s := fun g => h g.symm
      simp [h, h']
  rw [h1, h2]
theorem cEqS {a b : Str} (ha : a.cps.all (fun c => decide (c < 0x110000)) = true) (hb : b.cps.all (fun c => decide (c < 0x110000)) = true) : eCo .eq (.str a) (.str b) = some (decide (a = b)) := eEq_str (cmp_str ha) (cmp_str hb)
/-- the end of a plain step's reading, by its word -/
theorem is_plain_cut {ts : List D} {p s : D} {r : List D} (h : okD k j (.tup (.str "cut" :: r)) = true) : callN gi.tab (n + 4) 19 [.tup [.tup ts, p, s], .tup (.str "cut" :: r)] M = ok (.bl (isPlain ((ts.length : Int) - 1) (.str "cut" :: r))) M := by
  obtain ⟨j', rfl, hl, hx⟩ := okD_tup h
  refine call_ex (fd := f_is_plain.fd) rfl rfl ⟨[some (.tup [.tup ts, p, s]), some (.tup (.str "cut" :: r)), some (.str "cut"), some (.int ((ts.length : Int) - 1)), some (.int ((D.str "cut" :: r).length : Int)), none], ?_⟩
  show exs _ b_is_plain [some (.tup [.tup ts, p, s]), some (.tup (.str "cut" :: r)), none, none, none, none] M = _
  have s3 : 3 ≤ sizeLine := line1 3 (by decide)
  have e1 : eCo .eq (.str "cut") k_CUT = some true := (cEqS (by decide +kernel) (by decide +kernel)).trans (by decide +kernel)
  by_cases hr : r.length = 3
  · obtain ⟨a, b, c, rfl⟩ : ∃ a b c, r = [a, b, c] := by
      rcases r with _ | ⟨a, _ | ⟨b, _ | ⟨c, _ | ⟨d, r⟩⟩⟩⟩ <;> first | exact ⟨_, _, _, rfl⟩ | (simp at hr)
    have f1 := is_name_eq (n := n + 1) (M := M) (hx a (by simp))
    have f2 := is_from_eq (n := n + 1) (M := M) (lo := 0) (hi := (ts.length : Int) - 1) (hx b (by simp))
    have f3 := is_mark_eq (n := n) (M := M) (hx c (by simp))
    cases g1 : isName a <;> rw [g1] at f1 <;> cases g2 : isIn 0 ((ts.length : Int) - 1) b <;> rw [g2] at f2 <;> simp [b_is_plain, iq0, iq1, iq2, iq3, e1, s3, f1, f2, f3, isPlain, g1, g2]
  · have hn : isPlain ((ts.length : Int) - 1) (.str "cut" :: r) = false := by
      rcases r with _ | ⟨a, _ | ⟨b, _ | ⟨c, _ | ⟨d, _ | ⟨e, _ | ⟨f, r⟩⟩⟩⟩⟩⟩ <;> first | rfl | (simp at hr; done) | (simp [isPlain])
    rw [hn]
    have hr' : ¬ ((r.length : Int) + 1 = 4) := by omega
    simp [b_is_plain, iq0, e1, s3, hr']
end
end KK
end Rf
end T_K01Mj
section T_K01Mk
set_option Elab.async false
set_option linter.all false
set_option maxRecDepth 100000
set_option maxHeartbeats 4000000
namespace Rf
namespace KK
open PySem L2
section
variable {k j n : Nat} {M : Mem}
theorem is_plain_outer {ts : List D} {p s : D} {r : List D} (h : okD k j (.tup (.str "outer" :: r)) = true) : callN gi.tab (n + 4) 19 [.tup [.tup ts, p, s], .tup (.str "outer" :: r)] M = ok (.bl (isPlain ((ts.length : Int) - 1) (.str "outer" :: r))) M := by
  obtain ⟨j', rfl, hl, hx⟩ := okD_tup h
  refine call_ex (fd := f_is_plain.fd) rfl rfl ⟨[some (.tup [.tup ts, p, s]), some (.tup (.str "outer" :: r)), some (.str "outer"), some (.int ((ts.length : Int) - 1)), some (.int ((D.str "outer" :: r).length : Int)), none], ?_⟩
  show exs _ b_is_plain [some (.tup [.tup ts, p, s]), some (.tup (.str "outer" :: r)), none, none, none, none] M = _
  have s3 : 3 ≤ sizeLine := line1 3 (by decide)
  have e1 : eCo .eq (.str "outer") k_CUT = some false := (cEqS (by decide +kernel) (by decide +kernel)).trans (by decide +kernel)
  have e2 : eCo .inn (.str "outer") (.tup [k_OUTER, k_INNER]) = some true := in2.trans (by decide +kernel)
  by_cases hr : r.length = 3
  · obtain ⟨a, b, c, rfl⟩ : ∃ a b c, r = [a, b, c] := by
      rcases r with _ | ⟨a, _ | ⟨b, _ | ⟨c, _ | ⟨d, r⟩⟩⟩⟩ <;> first | exact ⟨_, _, _, rfl⟩ | (simp at hr)
    have f1 := is_name_eq (n := n + 1) (M := M) (hx a (by simp))
    have f2 := is_name_eq (n := n + 1) (M := M) (hx b (by simp))
    have f3 := is_from_eq (n := n + 1) (M := M) (lo := 1) (hi := 20) (hx c (by simp))
    have hv : isPlain ((ts.length : Int) - 1) [.str "outer", a, b, c] = (isName a && (isName b && (isIn 1 20 c))) := rfl
    rw [hv]
    cases g1 : isName a <;> rw [g1] at f1 <;> cases g2 : isName b <;> rw [g2] at f2 <;> simp [b_is_plain, iq0, iq1, iq2, iq3, e1, e2, two, s3, f1, f2, f3, g1, g2]
  · have hn : isPlain ((ts.length : Int) - 1) (.str "outer" :: r) = false := by
      rcases r with _ | ⟨a, _ | ⟨b, _ | ⟨c, _ | ⟨d, _ | ⟨e, _ | ⟨f, r⟩⟩⟩⟩⟩⟩ <;> first | rfl | (simp at hr; done) | (simp [isPlain])
    rw [hn]
    have hr' : ¬ ((r.length : Int) + 1 = 4) := by omega
    simp [b_is_plain, iq0, e1, e2, two, s3, hr']
theorem is_plain_inner {ts : List D} {p s : D} {r : List D} (h : okD k j (.tup (.str "inner" :: r)) = true) : callN gi.tab (n + 4) 19 [.tup [.tup ts, p, s], .tup (.str "inner" :: r)] M = ok (.bl (isPlain ((ts.length : Int) - 1) (.str "inner" :: r))) M := by
  obtain ⟨j', rfl, hl, hx⟩ := okD_tup h
  refine call_ex (fd := f_is_plain.fd) rfl rfl ⟨[some (.tup [.tup ts, p, s]), some (.tup (.str "inner" :: r)), some (.str "inner"), some (.int ((ts.length : Int) - 1)), some (.int ((D.str "inner" :: r).length : Int)), none], ?_⟩
  show exs _ b_is_plain [some (.tup [.tup ts, p, s]), some (.tup (.str "inner" :: r)), none, none, none, none] M = _
  have s3 : 3 ≤ sizeLine := line1 3 (by decide)
  have e1 : eCo .eq (.str "inner") k_CUT = some false := (cEqS (by decide +kernel) (by decide +kernel)).trans (by decide +kernel)
  have e2 : eCo .inn (.str "inner") (.tup [k_OUTER, k_INNER]) = some true := in2.trans (by decide +kernel)
  by_cases hr : r.length = 3
  · obtain ⟨a, b, c, rfl⟩ : ∃ a b c, r = [a, b, c] := by
      rcases r with _ | ⟨a, _ | ⟨b, _ | ⟨c, _ | ⟨d, r⟩⟩⟩⟩ <;> first | exact ⟨_, _, _, rfl⟩ | (simp at hr)
    have f1 := is_name_eq (n := n + 1) (M := M) (hx a (by simp))
    have f2 := is_name_eq (n := n + 1) (M := M) (hx b (by simp))
    have f3 := is_from_eq (n := n + 1) (M := M) (lo := 1) (hi := 20) (hx c (by simp))
    have hv : isPlain ((ts.length : Int) - 1) [.str "inner", a, b, c] = (isName a && (isName b && (isIn 1 20 c))) := rfl
    rw [hv]
    cases g1 : isName a <;> rw [g1] at f1 <;> cases g2 : isName b <;> rw [g2] at f2 <;> simp [b_is_plain, iq0, iq1, iq2, iq3, e1, e2, two, s3, f1, f2, f3, g1, g2]
  · have hn : isPlain ((ts.length : Int) - 1) (.str "inner" :: r) = false := by
      rcases r with _ | ⟨a, _ | ⟨b, _ | ⟨c, _ | ⟨d, _ | ⟨e, _ | ⟨f, r⟩⟩⟩⟩⟩⟩ <;> first | rfl | (simp at hr; done) | (simp [isPlain])
    rw [hn]
    have hr' : ¬ ((r.length : Int) + 1 = 4) := by omega
    simp [b_is_plain, iq0, e1, e2, two, s3, hr']
theorem is_plain_half {ts : List D} {p s : D} {r : List D} (h : okD k j (.tup (.str "half" :: r)) = true) : callN gi.tab (n + 4) 19 [.tup [.tup ts, p, s], .tup (.str "half" :: r)] M = ok (.bl (isPlain ((ts.length : Int) - 1) (.str "half" :: r))) M := by
  obtain ⟨j', rfl, hl, hx⟩ := okD_tup h
  refine call_ex (fd := f_is_plain.fd) rfl rfl ⟨[some (.tup [.tup ts, p, s]), some (.tup (.str "half" :: r)), some (.str "half"), some (.int ((ts.length : Int) - 1)), some (.int ((D.str "half" :: r).length : Int)), none], ?_⟩
  show exs _ b_is_plain [some (.tup [.tup ts, p, s]), some (.tup (.str "half" :: r)), none, none, none, none] M = _
  have s3 : 3 ≤ sizeLine := line1 3 (by decide)
  have e1 : eCo .eq (.str "half") k_CUT = some false := (cEqS (by decide +kernel) (by decide +kernel)).trans (by decide +kernel)
  have e2 : eCo .inn (.str "half") (.tup [k_OUTER, k_INNER]) = some false := in2.trans (by decide +kernel)
  have e3 : eCo .eq (.str "half") k_JOIN = some false := (cEqS (by decide +kernel) (by decide +kernel)).trans (by decide +kernel)
  have e4 : eCo .inn (.str "half") (.tup [k_HALF, k_HOLD]) = some true := in2.trans (by decide +kernel)
  by_cases hr : r.length = 2
  · obtain ⟨a, b, rfl⟩ : ∃ a b, r = [a, b] := by
      rcases r with _ | ⟨a, _ | ⟨b, _ | ⟨c, _ | ⟨d, r⟩⟩⟩⟩ <;> first | exact ⟨_, _, rfl⟩ | (simp at hr)
    have f1 := is_name_eq (n := n + 1) (M := M) (hx a (by simp))
    have f2 := is_name_eq (n := n + 1) (M := M) (hx b (by simp))
    have hv : isPlain ((ts.length : Int) - 1) [.str "half", a, b] = (isName a && (isName b)) := rfl
    rw [hv]
    cases g1 : isName a <;> rw [g1] at f1 <;> simp [b_is_plain, iq0, iq1, iq2, iq3, e1, e2, e3, e4, two, s3, f1, f2, g1]
  · have hn : isPlain ((ts.length : Int) - 1) (.str "half" :: r) = false := by
      rcases r with _ | ⟨a, _ | ⟨b, _ | ⟨c, _ | ⟨d, _ | ⟨e, _ | ⟨f, r⟩⟩⟩⟩⟩⟩ <;> first | rfl | (simp at hr; done) | (simp [isPlain])
    rw [hn]
    have hr' : ¬ ((r.length : Int) + 1 = 3) := by omega
    simp [b_is_plain, iq0, e1, e2, e3, e4, two, s3, hr']
theorem is_plain_hold {ts : List D} {p s : D} {r : List D} (h : okD k j (.tup (.str "hold" :: r)) = true) : callN gi.tab (n + 4) 19 [.tup [.tup ts, p, s], .tup (.str "hold" :: r)] M = ok (.bl (isPlain ((ts.length : Int) - 1) (.str "hold" :: r))) M := by
  obtain ⟨j', rfl, hl, hx⟩ := okD_tup h
  refine call_ex (fd := f_is_plain.fd) rfl rfl ⟨[some (.tup [.tup ts, p, s]), some (.tup (.str "hold" :: r)), some (.str "hold"), some (.int ((ts.length : Int) - 1)), some (.int ((D.str "hold" :: r).length : Int)), none], ?_⟩
  show exs _ b_is_plain [some (.tup [.tup ts, p, s]), some (.tup (.str "hold" :: r)), none, none, none, none] M = _
  have s3 : 3 ≤ sizeLine := line1 3 (by decide)
  have e1 : eCo .eq (.str "hold") k_CUT = some false := (cEqS (by decide +kernel) (by decide +kernel)).trans (by decide +kernel)
  have e2 : eCo .inn (.str "hold") (.tup [k_OUTER, k_INNER]) = some false := in2.trans (by decide +kernel)
  have e3 : eCo .eq (.str "hold") k_JOIN = some false := (cEqS (by decide +kernel) (by decide +kernel)).trans (by decide +kernel)
  have e4 : eCo .inn (.str "hold") (.tup [k_HALF, k_HOLD]) = some true := in2.trans (by decide +kernel)
  by_cases hr : r.length = 2
  · obtain ⟨a, b, rfl⟩ : ∃ a b, r = [a, b] := by
      rcases r with _ | ⟨a, _ | ⟨b, _ | ⟨c, _ | ⟨d, r⟩⟩⟩⟩ <;> first | exact ⟨_, _, rfl⟩ | (simp at hr)
    have f1 := is_name_eq (n := n + 1) (M := M) (hx a (by simp))
    have f2 := is_name_eq (n := n + 1) (M := M) (hx b (by simp))
    have hv : isPlain ((ts.length : Int) - 1) [.str "hold", a, b] = (isName a && (isName b)) := rfl
    rw [hv]
    cases g1 : isName a <;> rw [g1] at f1 <;> simp [b_is_plain, iq0, iq1, iq2, iq3, e1, e2, e3, e4, two, s3, f1, f2, g1]
  · have hn : isPlain ((ts.length : Int) - 1) (.str "hold" :: r) = false := by
      rcases r with _ | ⟨a, _ | ⟨b, _ | ⟨c, _ | ⟨d, _ | ⟨e, _ | ⟨f, r⟩⟩⟩⟩⟩⟩ <;> first | rfl | (simp at hr; done) | (simp [isPlain])
    rw [hn]
    have hr' : ¬ ((r.length : Int) + 1 = 3) := by omega
    simp [b_is_plain, iq0, e1, e2, e3, e4, two, s3, hr']
theorem is_plain_read {ts : List D} {p s : D} {r : List D} (h : okD k j (.tup (.str "read" :: r)) = true) : callN gi.tab (n + 4) 19 [.tup [.tup ts, p, s], .tup (.str "read" :: r)] M = ok (.bl (isPlain ((ts.length : Int) - 1) (.str "read" :: r))) M := by
  obtain ⟨j', rfl, hl, hx⟩ := okD_tup h
  refine call_ex (fd := f_is_plain.fd) rfl rfl ⟨[some (.tup [.tup ts, p, s]), some (.tup (.str "read" :: r)), some (.str "read"), some (.int ((ts.length : Int) - 1)), some (.int ((D.str "read" :: r).length : Int)), none], ?_⟩
  show exs _ b_is_plain [some (.tup [.tup ts, p, s]), some (.tup (.str "read" :: r)), none, none, none, none] M = _
  have s3 : 3 ≤ sizeLine := line1 3 (by decide)
  have e1 : eCo .eq (.str "read") k_CUT = some false := (cEqS (by decide +kernel) (by decide +kernel)).trans (by decide +kernel)
  have e2 : eCo .inn (.str "read") (.tup [k_OUTER, k_INNER]) = some false := in2.trans (by decide +kernel)
  have e3 : eCo .eq (.str "read") k_JOIN = some false := (cEqS (by decide +kernel) (by decide +kernel)).trans (by decide +kernel)
  have e4 : eCo .inn (.str "read") (.tup [k_HALF, k_HOLD]) = some false := in2.trans (by decide +kernel)
  have e5 : eCo .inn (.str "read") (.tup [k_READ, k_AGAIN]) = some true := in2.trans (by decide +kernel)
  by_cases hr : r.length = 2
  · obtain ⟨a, b, rfl⟩ : ∃ a b, r = [a, b] := by
      rcases r with _ | ⟨a, _ | ⟨b, _ | ⟨c, _ | ⟨d, r⟩⟩⟩⟩ <;> first | exact ⟨_, _, rfl⟩ | (simp at hr)
    have f1 := is_name_eq (n := n + 1) (M := M) (hx a (by simp))
    have f2 := is_from_eq (n := n + 1) (M := M) (lo := 0) (hi := (ts.length : Int) - 1) (hx b (by simp))
    have hv : isPlain ((ts.length : Int) - 1) [.str "read", a, b] = (isName a && (isIn 0 ((ts.length : Int) - 1) b)) := rfl
    rw [hv]
    cases g1 : isName a <;> rw [g1] at f1 <;> simp [b_is_plain, iq0, iq1, iq2, iq3, e1, e2, e3, e4, e5, two, s3, f1, f2, g1]
  · have hn : isPlain ((ts.length : Int) - 1) (.str "read" :: r) = false := by
      rcases r with _ | ⟨a, _ | ⟨b, _ | ⟨c, _ | ⟨d, _ | ⟨e, _ | ⟨f, r⟩⟩⟩⟩⟩⟩ <;> first | rfl | (simp at hr; done) | (simp [isPlain])
    rw [hn]
    have hr' : ¬ ((r.length : Int) + 1 = 3) := by omega
    simp [b_is_plain, iq0, e1, e2, e3, e4, e5, two, s3, hr']
theorem is_plain_again {ts : List D} {p s : D} {r : List D} (h : okD k j (.tup (.str "again" :: r)) = true) : callN gi.tab (n + 4) 19 [.tup [.tup ts, p, s], .tup (.str "again" :: r)] M = ok (.bl (isPlain ((ts.length : Int) - 1) (.str "again" :: r))) M := by
  obtain ⟨j', rfl, hl, hx⟩ := okD_tup h
  refine call_ex (fd := f_is_plain.fd) rfl rfl ⟨[some (.tup [.tup ts, p, s]), some (.tup (.str "again" :: r)), some (.str "again"), some (.int ((ts.length : Int) - 1)), some (.int ((D.str "again" :: r).length : Int)), none], ?_⟩
  show exs _ b_is_plain [some (.tup [.tup ts, p, s]), some (.tup (.str "again" :: r)), none, none, none, none] M = _
  have s3 : 3 ≤ sizeLine := line1 3 (by decide)
  have e1 : eCo .eq (.str "again") k_CUT = some false := (cEqS (by decide +kernel) (by decide +kernel)).trans (by decide +kernel)
  have e2 : eCo .inn (.str "again") (.tup [k_OUTER, k_INNER]) = some false := in2.trans (by decide +kernel)
  have e3 : eCo .eq (.str "again") k_JOIN = some false := (cEqS (by decide +kernel) (by decide +kernel)).trans (by decide +kernel)
  have e4 : eCo .inn (.str "again") (.tup [k_HALF, k_HOLD]) = some false := in2.trans (by decide +kernel)
  have e5 : eCo .inn (.str "again") (.tup [k_READ, k_AGAIN]) = some true := in2.trans (by decide +kernel)
  by_cases hr : r.length = 2
  · obtain ⟨a, b, rfl⟩ : ∃ a b, r = [a, b] := by
      rcases r with _ | ⟨a, _ | ⟨b, _ | ⟨c, _ | ⟨d, r⟩⟩⟩⟩ <;> first | exact ⟨_, _, rfl⟩ | (simp at hr)
    have f1 := is_name_eq (n := n + 1) (M := M) (hx a (by simp))
    have f2 := is_from_eq (n := n + 1) (M := M) (lo := 0) (hi := (ts.length : Int) - 1) (hx b (by simp))
    have hv : isPlain ((ts.length : Int) - 1) [.str "again", a, b] = (isName a && (isIn 0 ((ts.length : Int) - 1) b)) := rfl
    rw [hv]
    cases g1 : isName a <;> rw [g1] at f1 <;> simp [b_is_plain, iq0, iq1, iq2, iq3, e1, e2, e3, e4, e5, two, s3, f1, f2, g1]
  · have hn : isPlain ((ts.length : Int) - 1) (.str "again" :: r) = false := by
      rcases r with _ | ⟨a, _ | ⟨b, _ | ⟨c, _ | ⟨d, _ | ⟨e, _ | ⟨f, r⟩⟩⟩⟩⟩⟩ <;> first | rfl | (simp at hr; done) | (simp [isPlain])
    rw [hn]
    have hr' : ¬ ((r.length : Int) + 1 = 3) := by omega
    simp [b_is_plain, iq0, e1, e2, e3, e4, e5, two, s3, hr']
end
end KK
end Rf
end T_K01Mk
section T_K01Ml
set_option Elab.async false
set_option linter.all false
set_option maxRecDepth 100000
set_option maxHeartbeats 4000000
namespace Rf
namespace KK
open PySem L2
section
variable {k j n : Nat} {M : Mem}
theorem isName_eq {d : D} (h : isName d = true) : ∃ s, d = .str s := by cases d <;> first | exact ⟨_, rfl⟩ | cases h
theorem neq_str {a b : Str} (h1 : okD k j (.str a) = true) (h2 : okD k j (.str b) = true) : eCo .ne (.str a) (.str b) = some (neS (.str a) (.str b)) := by
  show (eEq _ _).map not = _
  rw [eEq_str (strOk_of h1) (strOk_of h2)]; rfl
theorem all3 {a b c : D} : eBi M .all [.lst [.bl (isName a), .bl (isName b), .bl (isName c)]] = some (.bl (isName a && (isName b && isName c))) := by
  have := bAll_map (M := M) (p := isName) (xs := [a, b, c])
  rw [show [a, b, c].all isName = (isName a && (isName b && (isName c && true))) from rfl, Bool.and_true] at this
  exact this
theorem is_plain_join {ts : List D} {p s : D} {r : List D} (h : okD k j (.tup (.str "join" :: r)) = true) : callN gi.tab (n + 4) 19 [.tup [.tup ts, p, s], .tup (.str "join" :: r)] M = ok (.bl (isPlain ((ts.length : Int) - 1) (.str "join" :: r))) M := by
  obtain ⟨j', rfl, hl, hx⟩ := okD_tup h
  refine call_ex (fd := f_is_plain.fd) rfl rfl ⟨[some (.tup [.tup ts, p, s]), some (.tup (.str "join" :: r)), some (.str "join"), some (.int ((ts.length : Int) - 1)), some (.int ((D.str "join" :: r).length : Int)), none], ?_⟩
  show exs _ b_is_plain [some (.tup [.tup ts, p, s]), some (.tup (.str "join" :: r)), none, none, none, none] M = _
  have s3 : 3 ≤ sizeLine := line1 3 (by decide)
  have e1 : eCo .eq (.str "join") k_CUT = some false := (cEqS (by decide +kernel) (by decide +kernel)).trans (by decide +kernel)
  have e2 : eCo .inn (.str "join") (.tup [k_OUTER, k_INNER]) = some false := in2.trans (by decide +kernel)
  have e3 : eCo .eq (.str "join") k_JOIN = some true := (cEqS (by decide +kernel) (by decide +kernel)).trans (by decide +kernel)
  by_cases hr : r.length = 3
  · obtain ⟨a, b, c, rfl⟩ : ∃ a b c, r = [a, b, c] := by
      rcases r with _ | ⟨a, _ | ⟨b, _ | ⟨c, _ | ⟨d, r⟩⟩⟩⟩ <;> first | exact ⟨_, _, _, rfl⟩ | (simp at hr)
    have hs : eSlc (.tup [.str "join", a, b, c]) (some 1) none = some (.tup [a, b, c]) := rfl
    have hlc := ev_lc_of (cl := callN gi.tab (n + 3)) (env := [some (.tup [.tup ts, p, s]), some (.tup [.str "join", a, b, c]), some (.str "join"), some (.int ((ts.length : Int) - 1)), some (.int 4), none]) (M := M)
      (e := .call 17 (.cons (.var 5) .nil) []) (i := 5) (it := .seq (.slc (.var 1) (.at (.con (.int (1)))) .no)) (xs := [a, b, c]) (fun t => .bl (isName t)) (by simp [hs]) (sz (by simp))
      (by intro t ht; have f := is_name_eq (n := n + 1) (M := M) (hx t (List.mem_cons_of_mem _ ht)); simp [f])
    have hb := all3 (M := M) (a := a) (b := b) (c := c)
    have hv : isPlain ((ts.length : Int) - 1) [.str "join", a, b, c] = (isName a && (isName b && isName c)) := rfl
    rw [hv]
    simp only [b_is_plain, exs_cons, exs_nil, ex_asg, ex_ite, ex_ret, ev_tup, evs_cons, evs_nil, ev_idx, ev_var, ev_con, s_get0, s_getS, s_bind_ok, iq0, jdx0, s_lift, ev_bin, ev_bi, bLenT, eSub]
    simp [two, s3, e1, e2, e3, hlc, hb, iq0]
  · have hn : isPlain ((ts.length : Int) - 1) (.str "join" :: r) = false := by
      rcases r with _ | ⟨a, _ | ⟨b, _ | ⟨c, _ | ⟨d, _ | ⟨e, _ | ⟨f, r⟩⟩⟩⟩⟩⟩ <;> first | rfl | (simp at hr; done) | (simp [isPlain])
    rw [hn]
    have hr' : ¬ ((r.length : Int) + 1 = 4) := by omega
    simp [b_is_plain, iq0, e1, e2, e3, two, s3, hr']
theorem is_plain_split {ts : List D} {p s : D} {r : List D} (h : okD k j (.tup (.str "split" :: r)) = true) : callN gi.tab (n + 4) 19 [.tup [.tup ts, p, s], .tup (.str "split" :: r)] M = ok (.bl (isPlain ((ts.length : Int) - 1) (.str "split" :: r))) M := by
  obtain ⟨j', rfl, hl, hx⟩ := okD_tup h
  refine call_ex (fd := f_is_plain.fd) rfl rfl ⟨[some (.tup [.tup ts, p, s]), some (.tup (.str "split" :: r)), some (.str "split"), some (.int ((ts.length : Int) - 1)), some (.int ((D.str "split" :: r).length : Int)), none], ?_⟩
  show exs _ b_is_plain [some (.tup [.tup ts, p, s]), some (.tup (.str "split" :: r)), none, none, none, none] M = _
  have s3 : 3 ≤ sizeLine := line1 3 (by decide)
  have e1 : eCo .eq (.str "split") k_CUT = some false := (cEqS (by decide +kernel) (by decide +kernel)).trans (by decide +kernel)
  have e2 : eCo .inn (.str "split") (.tup [k_OUTER, k_INNER]) = some false := in2.trans (by decide +kernel)
  have e3 : eCo .eq (.str "split") k_JOIN = some false := (cEqS (by decide +kernel) (by decide +kernel)).trans (by decide +kernel)
  have e4 : eCo .inn (.str "split") (.tup [k_HALF, k_HOLD]) = some false := in2.trans (by decide +kernel)
  have e5 : eCo .inn (.str "split") (.tup [k_READ, k_AGAIN]) = some false := in2.trans (by decide +kernel)
  have e6 : eCo .ne (.str "split") k_SPLIT = some false := by
    show (eEq _ _).map not = _
    rw [show eEq (.str "split") k_SPLIT = some true from (cEqS (by decide +kernel) (by decide +kernel)).trans (by decide +kernel)]; rfl
  by_cases hr : r.length = 5
  · obtain ⟨a, b, c, d, e, rfl⟩ : ∃ a b c d e, r = [a, b, c, d, e] := by
      rcases r with _ | ⟨a, _ | ⟨b, _ | ⟨c, _ | ⟨d, _ | ⟨e, _ | ⟨f, r⟩⟩⟩⟩⟩⟩ <;> first | exact ⟨_, _, _, _, _, rfl⟩ | (simp at hr)
    have hs : eSlc (.tup [.str "split", a, b, c, d, e]) (some 1) (some 4) = some (.tup [a, b, c]) := rfl
    have hlc := ev_lc_of (cl := callN gi.tab (n + 3)) (env := [some (.tup [.tup ts, p, s]), some (.tup [.str "split", a, b, c, d, e]), some (.str "split"), some (.int ((ts.length : Int) - 1)), some (.int 6), none]) (M := M)
      (e := .call 17 (.cons (.var 5) .nil) []) (i := 5) (it := .seq (.slc (.var 1) (.at (.con (.int (1)))) (.at (.con (.int (4)))))) (xs := [a, b, c]) (fun t => .bl (isName t)) (by simp [hs]) (sz (by simp))
      (by intro t ht; have f := is_name_eq (n := n + 1) (M := M) (hx t (by simp at ht ⊢; rcases ht with h | h | h <;> simp [h])); simp [f])
    have hb := all3 (M := M) (a := a) (b := b) (c := c)
    have hv : isPlain ((ts.length : Int) - 1) [.str "split", a, b, c, d, e] = ((isName a && (isName b && isName c)) && (neS a b && (isIn 0 ((ts.length : Int) - 1) d && isIn 3 20 e))) := rfl
    rw [hv]
    have f2 := is_from_eq (n := n + 1) (M := M) (lo := 0) (hi := (ts.length : Int) - 1) (hx d (by simp))
    have f3 := is_mark_eq (n := n) (M := M) (hx e (by simp))
    cases g : (isName a && (isName b && isName c)) with
    | false =>
      rw [g] at hb
      simp [b_is_plain, iq0, jdx0, two, s3, e1, e2, e3, e4, e5, e6, hlc, hb]
    | true =>
      rw [g] at hb
      rw [Bool.and_eq_true, Bool.and_eq_true] at g
      obtain ⟨x, rfl⟩ := isName_eq g.1
      obtain ⟨y, rfl⟩ := isName_eq g.2.1
      have hne := neq_str (hx (.str x) (by simp)) (hx (.str y) (by simp))
      cases g1 : neS (.str x) (.str y) <;> rw [g1] at hne <;> cases g2 : isIn 0 ((ts.length : Int) - 1) d <;> rw [g2] at f2 <;> simp [b_is_plain, iq0, iq1, iq2, iq4, iq5, jdx0, two, s3, e1, e2, e3, e4, e5, e6, hlc, hb, hne, f2, f3]
  · have hn : isPlain ((ts.length : Int) - 1) (.str "split" :: r) = false := by
      rcases r with _ | ⟨a, _ | ⟨b, _ | ⟨c, _ | ⟨d, _ | ⟨e, _ | ⟨f, r⟩⟩⟩⟩⟩⟩ <;> first | rfl | (simp at hr; done) | (simp [isPlain])
    rw [hn]
    have hr' : ¬ ((r.length : Int) + 1 = 6) := by omega
    simp [b_is_plain, iq0, e1, e2, e3, e4, e5, e6, two, s3, hr']
end
end KK
end Rf
end T_K01Ml
section T_K01Mm
set_option Elab.async false
set_option linter.all false
set_option maxRecDepth 100000
set_option maxHeartbeats 4000000
namespace Rf
namespace KK
open PySem L2
section
variable {k j n : Nat} {M : Mem}
structure NoWord (w : Str) : Prop where
  cut : ¬ w = "cut"
  outer : ¬ w = "outer"
  inner : ¬ w = "inner"
  join : ¬ w = "join"
  half : ¬ w = "half"
  hold : ¬ w = "hold"
  read : ¬ w = "read"
  again : ¬ w = "again"
  split : ¬ w = "split"
theorem isPlain_no {w : Str} {t : Int} {r : List D} (h : NoWord w) : isPlain t (.str w :: r) = false := by
  obtain ⟨h1, h2, h3, h4, h5, h6, h7, h8, h9⟩ := h
  rcases r with _ | ⟨a, _ | ⟨b, _ | ⟨c, _ | ⟨d, _ | ⟨e, _ | ⟨f, r⟩⟩⟩⟩⟩⟩ <;> simp [isPlain, h1, h2, h3, h4, h5, h6, h7, h8, h9]
theorem is_plain_other {ts : List D} {p s : D} {w : Str} {r : List D} (h : okD k j (.tup (.str w :: r)) = true) (hw : NoWord w) : callN gi.tab (n + 4) 19 [.tup [.tup ts, p, s], .tup (.str w :: r)] M = ok (.bl (isPlain ((ts.length : Int) - 1) (.str w :: r))) M := by
  obtain ⟨j', rfl, hl, hx⟩ := okD_tup h
  have hc := strOk_of (hx (.str w) (by simp))
  refine call_ex (fd := f_is_plain.fd) rfl rfl ⟨[some (.tup [.tup ts, p, s]), some (.tup (.str w :: r)), some (.str w), some (.int ((ts.length : Int) - 1)), some (.int ((D.str w :: r).length : Int)), none], ?_⟩
  show exs _ b_is_plain [some (.tup [.tup ts, p, s]), some (.tup (.str w :: r)), none, none, none, none] M = _
  rw [isPlain_no hw]
  obtain ⟨h1, h2, h3, h4, h5, h6, h7, h8, h9⟩ := hw
  have s3 : 3 ≤ sizeLine := line1 3 (by decide)
  have e1 : eCo .eq (.str w) k_CUT = some false := (eEq_str hc (cmp_str (by decide +kernel))).trans (by rw [decide_eq_false h1])
  have e2 : eCo .inn (.str w) (.tup [k_OUTER, k_INNER]) = some false := in2.trans (by rw [decide_eq_false h2, decide_eq_false h3]; rfl)
  have e3 : eCo .eq (.str w) k_JOIN = some false := (eEq_str hc (cmp_str (by decide +kernel))).trans (by rw [decide_eq_false h4])
  have e4 : eCo .inn (.str w) (.tup [k_HALF, k_HOLD]) = some false := in2.trans (by rw [decide_eq_false h5, decide_eq_false h6]; rfl)
  have e5 : eCo .inn (.str w) (.tup [k_READ, k_AGAIN]) = some false := in2.trans (by rw [decide_eq_false h7, decide_eq_false h8]; rfl)
  have e6 : eCo .ne (.str w) k_SPLIT = some true := by
    show (eEq _ _).map not = _
    rw [show eEq (.str w) k_SPLIT = some false from (eEq_str hc (cmp_str (by decide +kernel))).trans (by rw [decide_eq_false h9])]; rfl
  simp [b_is_plain, iq0, e1, e2, e3, e4, e5, e6, two, s3]
theorem is_plain_eq {ts : List D} {p s : D} {w : Str} {r : List D} (h : okD k j (.tup (.str w :: r)) = true) : callN gi.tab (n + 4) 19 [.tup [.tup ts, p, s], .tup (.str w :: r)] M = ok (.bl (isPlain ((ts.length : Int) - 1) (.str w :: r))) M := by
  by_cases h1 : w = "cut"
  · subst h1; exact is_plain_cut h
  by_cases h2 : w = "outer"
  · subst h2; exact is_plain_outer h
  by_cases h3 : w = "inner"
  · subst h3; exact is_plain_inner h
  by_cases h4 : w = "join"
  · subst h4; exact is_plain_join h
  by_cases h5 : w = "half"
  · subst h5; exact is_plain_half h
  by_cases h6 : w = "hold"
  · subst h6; exact is_plain_hold h
  by_cases h7 : w = "read"
  · subst h7; exact is_plain_read h
  by_cases h8 : w = "again"
  · subst h8; exact is_plain_again h
  by_cases h9 : w = "split"
  · subst h9; exact is_plain_split h
  exact is_plain_other h ⟨h1, h2, h3, h4, h5, h6, h7, h8, h9⟩
end
end KK
end Rf
end T_K01Mm
section T_K01Mn
set_option Elab.async false
set_option linter.all false
set_option maxRecDepth 100000
set_option maxHeartbeats 4000000
namespace Rf
namespace KK
open PySem L2
section
variable {k j n : Nat} {M : Mem}
/-- one part against its sort -/
def fits : D → D → Bool
  | x, .str _ => isName x
  | x, .lst [.int lo, .int hi] => isIn lo hi x
  | _, _ => false
def nmL : D := .lst [.str "a", .str "b", .str "c", .str "d", .str "e", .str "f"]
theorem nin_names {s : Str} (h : okD k j (.str s) = true) : eCo .nin (.str s) nmL = some (!isName (.str s)) := by
  have hc := strOk_of h
  show (eIn (.str s) nmL).map not = _
  have : eIn (.str s) nmL = some (isName (.str s)) := by
    show (match toPy (.str s), toPys [D.str "a", .str "b", .str "c", .str "d", .str "e", .str "f"] with
      | some x, some ys => if SeqAt.shaped x && SeqAt.shaped (.list ys) then some (ys.any fun z => PyData.eqv z x) else none
      | _, _ => none) = _
    show (if (SeqAt.shaped (PyData.str s) && SeqAt.shaped (.list [.str "a", .str "b", .str "c", .str "d", .str "e", .str "f"])) = true then _ else none) = _
    rw [if_pos (by
      rw [show SeqAt.shaped (PyData.str s) = true from hc.sh]
      decide +kernel)]
    rfl
  rw [this]; rfl
def plainLoop : List CS := [.ite (.and (.cmp .eq (.var 8) (.con (.str ""))) (.or (.not (.isi (.var 7) .str)) (.cmp .nin (.var 7) (.lst (.cons (.con (.str "a")) (.cons (.con (.str "b")) (.cons (.con (.str "c")) (.cons (.con (.str "d")) (.cons (.con (.str "e")) (.cons (.con (.str "f")) .nil))))))))))
    [.ret (.con (.bl false))]
    [],
    .ite (.and (.cmp .ne (.var 8) (.con (.str ""))) (.not (.call 44 (.cons (.var 7) (.cons (.idx (.var 8) (.con (.int (0)))) (.cons (.idx (.var 8) (.con (.int (1)))) .nil))) [])))
    [.ret (.con (.bl false))]
    []]
theorem il0 {x y : D} : eIdx M (.lst [x, y]) (.int 0) = some x := rfl
theorem il1 {x y : D} : eIdx M (.lst [x, y]) (.int 1) = some y := rfl
theorem plainLoop_eq {x so : D} {a b c d e f g : Option D} (h : okD k j x = true) (hs : so = .str "" ∨ ∃ lo hi : Int, so = .lst [.int lo, .int hi]) :
    exs (callN gi.tab (n + 1)) plainLoop [a, b, c, d, e, f, g, some x, some so] M = if fits x so = true then some (.nx, [a, b, c, d, e, f, g, some x, some so], M) else some (.ret (.bl false), [a, b, c, d, e, f, g, some x, some so], M) := by
  have s6 : 6 ≤ sizeLine := line1 6 (by decide)
  rcases hs with rfl | ⟨lo, hi, rfl⟩
  · have e1 : eCo .eq (.str "") (.str "") = some true := (cEqS (by decide +kernel) (by decide +kernel)).trans (by decide +kernel)
    have e2 : eCo .ne (.str "") (.str "") = some false := by
      show (eEq _ _).map not = _
      rw [show eEq (.str "") (.str "") = some true from e1]; rfl
    have hf : fits x (.str "") = isName x := by cases x <;> rfl
    rw [hf]
    by_cases hx : ∃ s, x = .str s
    · obtain ⟨s, rfl⟩ := hx
      have hn := nin_names h
      unfold nmL at hn
      have ty : isTy .str (.str s) = some true := rfl
      cases g1 : isName (.str s) <;> rw [g1] at hn <;> simp [plainLoop, e1, e2, ty, s6, hn]
    · have ty : isTy .str x = some false := by
        rw [ty_str h]
        cases x <;> first | rfl | exact absurd ⟨_, rfl⟩ hx
      have hn : isName x = false := by cases x <;> first | rfl | exact absurd ⟨_, rfl⟩ hx
      simp [plainLoop, e1, e2, ty, hn]
  · have e1 : eCo .eq (.lst [.int lo, .int hi]) (.str "") = some false := by
      show eEq (.lst [.int lo, .int hi]) (.str "") = _
      rw [eEq_of ⟨rfl, rfl⟩ (cmp_str (by decide +kernel))]; rfl
    have e2 : eCo .ne (.lst [.int lo, .int hi]) (.str "") = some true := by
      show (eEq _ _).map not = _
      rw [show eEq (.lst [.int lo, .int hi]) (.str "") = some false from e1]; rfl
    have hf : fits x (.lst [.int lo, .int hi]) = isIn lo hi x := by cases x <;> rfl
    rw [hf]
    have f1 := law_int_eq (n := n) (M := M) (lo := lo) (hi := hi) h
    cases g1 : isIn lo hi x <;> rw [g1] at f1 <;> simp [plainLoop, e1, e2, il0, il1, f1]
end
end KK
end Rf
end T_K01Mn
section T_K01Mo
set_option Elab.async false
set_option linter.all false
set_option maxRecDepth 100000
set_option maxHeartbeats 4000000
namespace Rf
namespace KK
open PySem L2
section
variable {k j n : Nat} {M : Mem}
theorem setD_new {ks : List Key} {xs : List D} {d v : D} {q : Key} (hd : keyOf d = some q) (hk : (ks.any fun j => decide (j = q)) = false) (hl : ks.length ≤ 100) (hv : v.low 0 = true) :
    eSetD (M ++ [.dic ks xs]) (.cell M.length) d v = some (M ++ [.dic (ks ++ [q]) (xs ++ [v])]) := by
  have hM : (M ++ [Cell.dic ks xs])[M.length]? = some (.dic ks xs) := by simp
  unfold eSetD
  simp only [hM, hd]
  have h1 : 101 ≤ sizeLine := line1 101 (by decide)
  rw [if_pos ⟨by omega, hv⟩]
  unfold putD
  rw [if_neg (by rw [hk]; exact Bool.false_ne_true)]
  show some ((M ++ [Cell.dic ks xs]).set M.length _) = _
  rw [List.set_append_right _ _ (Nat.le_refl _), Nat.sub_self]
  rfl
abbrev k4 : List Key := [.inr "cut", .inr "outer", .inr "inner", .inr "join"]
theorem merge4 {a b c d : D} : mergeD (k4.zip [a, b, c, d]) = (k4, [a, b, c, d]) := by
  have n1 : ¬ ("outer" : Str) = "cut" := by decide +kernel
  have n2 : ¬ ("inner" : Str) = "cut" := by decide +kernel
  have n3 : ¬ ("inner" : Str) = "outer" := by decide +kernel
  have n4 : ¬ ("join" : Str) = "cut" := by decide +kernel
  have n5 : ¬ ("join" : Str) = "outer" := by decide +kernel
  have n6 : ¬ ("join" : Str) = "inner" := by decide +kernel
  have m1 : ¬ ("cut" : Str) = "outer" := by decide +kernel
  have m2 : ¬ ("cut" : Str) = "inner" := by decide +kernel
  have m3 : ¬ ("outer" : Str) = "inner" := by decide +kernel
  have m4 : ¬ ("cut" : Str) = "join" := by decide +kernel
  have m5 : ¬ ("outer" : Str) = "join" := by decide +kernel
  have m6 : ¬ ("inner" : Str) = "join" := by decide +kernel
  simp [mergeD, putD, n1, n2, n3, n4, n5, n6, m1, m2, m3, m4, m5, m6]
end
end KK
end Rf
end T_K01Mo
section T_K01Mp
set_option Elab.async false
set_option linter.all false
set_option maxRecDepth 100000
set_option maxHeartbeats 4000000
namespace Rf
namespace KK
open PySem L2
section
variable {k j n : Nat} {M : Mem}
def sE : D := .str ""
def sT (t : Int) : D := .lst [.int 0, .int t]
def sM : D := .lst [.int 3, .int 20]
def sN : D := .lst [.int 1, .int 20]
def shapes (t : Int) : List (Str × List D) := [("cut", [sE, sT t, sM]), ("outer", [sE, sE, sN]), ("inner", [sE, sE, sN]), ("join", [sE, sE, sE]), ("half", [sE, sE]), ("hold", [sE, sE]), ("read", [sE, sT t]), ("again", [sE, sT t]), ("split", [sE, sE, sE, sT t, sM])]
def shK : List Key := [.inr "cut", .inr "outer", .inr "inner", .inr "join", .inr "half", .inr "hold", .inr "read", .inr "again", .inr "split"]
def shV (t : Int) : List D := [.lst [sE, sT t, sM], .lst [sE, sE, sN], .lst [sE, sE, sN], .lst [sE, sE, sE], .lst [sE, sE], .lst [sE, sE], .lst [sE, sT t], .lst [sE, sT t], .lst [sE, sE, sE, sT t, sM]]
def shapeOf (t : Int) (w : Str) : List D :=
  if w = "cut" then [sE, sT t, sM] else if w = "outer" then [sE, sE, sN] else if w = "inner" then [sE, sE, sN] else if w = "join" then [sE, sE, sE]
  else if w = "half" then [sE, sE] else if w = "hold" then [sE, sE] else if w = "read" then [sE, sT t] else if w = "again" then [sE, sT t] else if w = "split" then [sE, sE, sE, sT t, sM] else []
theorem look_shape {t : Int} {w : Str} : (lookD shK (shV t) (.inr w)).getD (.lst []) = .lst (shapeOf t w) := by
  unfold lookD shK shV shapeOf
  have hh : ∀ a : Str, decide ((Sum.inr a : Key) = Sum.inr w) = decide (w = a) := by
    intro a
    by_cases h : w = a
    · subst h; simp
    · have h' : ¬ a = w := fun g => h g.symm
      simp [h, h']
  simp only [List.zip_cons_cons, List.find?_cons, hh]
  by_cases h1 : w = "cut"
  · simp only [decide_eq_true h1, if_pos h1]; rfl
  by_cases h2 : w = "outer"
  · simp only [decide_eq_false h1, if_neg h1, decide_eq_true h2, if_pos h2]; rfl
  by_cases h3 : w = "inner"
  · simp only [decide_eq_false h1, if_neg h1, decide_eq_false h2, if_neg h2, decide_eq_true h3, if_pos h3]; rfl
  by_cases h4 : w = "join"
  · simp only [decide_eq_false h1, if_neg h1, decide_eq_false h2, if_neg h2, decide_eq_false h3, if_neg h3, decide_eq_true h4, if_pos h4]; rfl
  by_cases h5 : w = "half"
  · simp only [decide_eq_false h1, if_neg h1, decide_eq_false h2, if_neg h2, decide_eq_false h3, if_neg h3, decide_eq_false h4, if_neg h4, decide_eq_true h5, if_pos h5]; rfl
  by_cases h6 : w = "hold"
  · simp only [decide_eq_false h1, if_neg h1, decide_eq_false h2, if_neg h2, decide_eq_false h3, if_neg h3, decide_eq_false h4, if_neg h4, decide_eq_false h5, if_neg h5, decide_eq_true h6, if_pos h6]; rfl
  by_cases h7 : w = "read"
  · simp only [decide_eq_false h1, if_neg h1, decide_eq_false h2, if_neg h2, decide_eq_false h3, if_neg h3, decide_eq_false h4, if_neg h4, decide_eq_false h5, if_neg h5, decide_eq_false h6, if_neg h6, decide_eq_true h7, if_pos h7]; rfl
  by_cases h8 : w = "again"
  · simp only [decide_eq_false h1, if_neg h1, decide_eq_false h2, if_neg h2, decide_eq_false h3, if_neg h3, decide_eq_false h4, if_neg h4, decide_eq_false h5, if_neg h5, decide_eq_false h6, if_neg h6, decide_eq_false h7, if_neg h7, decide_eq_true h8, if_pos h8]; rfl
  by_cases h9 : w = "split"
  · simp only [decide_eq_false h1, if_neg h1, decide_eq_false h2, if_neg h2, decide_eq_false h3, if_neg h3, decide_eq_false h4, if_neg h4, decide_eq_false h5, if_neg h5, decide_eq_false h6, if_neg h6, decide_eq_false h7, if_neg h7, decide_eq_false h8, if_neg h8, decide_eq_true h9, if_pos h9]; rfl
  simp only [decide_eq_false h1, if_neg h1, decide_eq_false h2, if_neg h2, decide_eq_false h3, if_neg h3, decide_eq_false h4, if_neg h4, decide_eq_false h5, if_neg h5, decide_eq_false h6, if_neg h6, decide_eq_false h7, if_neg h7, decide_eq_false h8, if_neg h8, decide_eq_false h9, if_neg h9]
  rfl
end
end KK
end Rf
end T_K01Mp
section T_K01Mq
set_option Elab.async false
set_option linter.all false
set_option maxRecDepth 100000
set_option maxHeartbeats 4000000
namespace Rf
namespace KK
open PySem L2
section
theorem fits_sE {x : D} : fits x sE = isName x := by cases x <;> rfl
theorem fits_in {x : D} {lo hi : Int} : fits x (.lst [.int lo, .int hi]) = isIn lo hi x := by cases x <;> rfl
def ne2 : List D → Bool
  | a :: b :: _ => neS a b
  | _ => true
theorem shapeOf_cut {t : Int} : shapeOf t "cut" = [sE, sT t, sM] := by unfold shapeOf; first | rfl | decide +kernel
theorem fit_cut {t : Int} {r : List D} (h : r.length = 3) : isPlain t (.str "cut" :: r) = ((zipD r (shapeOf t "cut")).all (pr fits) && true) := by
  obtain ⟨a, b, c, rfl⟩ : ∃ a b c, r = [a, b, c] := by
    rcases r with _ | ⟨a, _ | ⟨b, _ | ⟨c, _ | ⟨d, _ | ⟨e, _ | ⟨f, r⟩⟩⟩⟩⟩⟩ <;> first | exact ⟨_, _, _, rfl⟩ | (simp at h)
  rw [shapeOf_cut]
  show (isName a && (isIn 0 t b && isIn 3 20 c)) = _
  simp [zipD, pr, fits_sE, fits_in, sT, sM, sN, ne2]
theorem shapeOf_outer {t : Int} : shapeOf t "outer" = [sE, sE, sN] := by unfold shapeOf; first | rfl | decide +kernel
theorem fit_outer {t : Int} {r : List D} (h : r.length = 3) : isPlain t (.str "outer" :: r) = ((zipD r (shapeOf t "outer")).all (pr fits) && true) := by
  obtain ⟨a, b, c, rfl⟩ : ∃ a b c, r = [a, b, c] := by
    rcases r with _ | ⟨a, _ | ⟨b, _ | ⟨c, _ | ⟨d, _ | ⟨e, _ | ⟨f, r⟩⟩⟩⟩⟩⟩ <;> first | exact ⟨_, _, _, rfl⟩ | (simp at h)
  rw [shapeOf_outer]
  show (isName a && (isName b && isIn 1 20 c)) = _
  simp [zipD, pr, fits_sE, fits_in, sT, sM, sN, ne2]
theorem shapeOf_inner {t : Int} : shapeOf t "inner" = [sE, sE, sN] := by unfold shapeOf; first | rfl | decide +kernel
theorem fit_inner {t : Int} {r : List D} (h : r.length = 3) : isPlain t (.str "inner" :: r) = ((zipD r (shapeOf t "inner")).all (pr fits) && true) := by
  obtain ⟨a, b, c, rfl⟩ : ∃ a b c, r = [a, b, c] := by
    rcases r with _ | ⟨a, _ | ⟨b, _ | ⟨c, _ | ⟨d, _ | ⟨e, _ | ⟨f, r⟩⟩⟩⟩⟩⟩ <;> first | exact ⟨_, _, _, rfl⟩ | (simp at h)
  rw [shapeOf_inner]
  show (isName a && (isName b && isIn 1 20 c)) = _
  simp [zipD, pr, fits_sE, fits_in, sT, sM, sN, ne2]
theorem shapeOf_join {t : Int} : shapeOf t "join" = [sE, sE, sE] := by unfold shapeOf; first | rfl | decide +kernel
theorem fit_join {t : Int} {r : List D} (h : r.length = 3) : isPlain t (.str "join" :: r) = ((zipD r (shapeOf t "join")).all (pr fits) && true) := by
  obtain ⟨a, b, c, rfl⟩ : ∃ a b c, r = [a, b, c] := by
    rcases r with _ | ⟨a, _ | ⟨b, _ | ⟨c, _ | ⟨d, _ | ⟨e, _ | ⟨f, r⟩⟩⟩⟩⟩⟩ <;> first | exact ⟨_, _, _, rfl⟩ | (simp at h)
  rw [shapeOf_join]
  show (isName a && (isName b && isName c)) = _
  simp [zipD, pr, fits_sE, fits_in, sT, sM, sN, ne2]
theorem shapeOf_half {t : Int} : shapeOf t "half" = [sE, sE] := by unfold shapeOf; first | rfl | decide +kernel
theorem fit_half {t : Int} {r : List D} (h : r.length = 2) : isPlain t (.str "half" :: r) = ((zipD r (shapeOf t "half")).all (pr fits) && true) := by
  obtain ⟨a, b, rfl⟩ : ∃ a b, r = [a, b] := by
    rcases r with _ | ⟨a, _ | ⟨b, _ | ⟨c, _ | ⟨d, _ | ⟨e, _ | ⟨f, r⟩⟩⟩⟩⟩⟩ <;> first | exact ⟨_, _, rfl⟩ | (simp at h)
  rw [shapeOf_half]
  show (isName a && isName b) = _
  simp [zipD, pr, fits_sE, fits_in, sT, sM, sN, ne2]
theorem shapeOf_hold {t : Int} : shapeOf t "hold" = [sE, sE] := by unfold shapeOf; first | rfl | decide +kernel
theorem fit_hold {t : Int} {r : List D} (h : r.length = 2) : isPlain t (.str "hold" :: r) = ((zipD r (shapeOf t "hold")).all (pr fits) && true) := by
  obtain ⟨a, b, rfl⟩ : ∃ a b, r = [a, b] := by
    rcases r with _ | ⟨a, _ | ⟨b, _ | ⟨c, _ | ⟨d, _ | ⟨e, _ | ⟨f, r⟩⟩⟩⟩⟩⟩ <;> first | exact ⟨_, _, rfl⟩ | (simp at h)
  rw [shapeOf_hold]
  show (isName a && isName b) = _
  simp [zipD, pr, fits_sE, fits_in, sT, sM, sN, ne2]
theorem shapeOf_read {t : Int} : shapeOf t "read" = [sE, sT t] := by unfold shapeOf; first | rfl | decide +kernel
theorem fit_read {t : Int} {r : List D} (h : r.length = 2) : isPlain t (.str "read" :: r) = ((zipD r (shapeOf t "read")).all (pr fits) && true) := by
  obtain ⟨a, b, rfl⟩ : ∃ a b, r = [a, b] := by
    rcases r with _ | ⟨a, _ | ⟨b, _ | ⟨c, _ | ⟨d, _ | ⟨e, _ | ⟨f, r⟩⟩⟩⟩⟩⟩ <;> first | exact ⟨_, _, rfl⟩ | (simp at h)
  rw [shapeOf_read]
  show (isName a && isIn 0 t b) = _
  simp [zipD, pr, fits_sE, fits_in, sT, sM, sN, ne2]
theorem shapeOf_again {t : Int} : shapeOf t "again" = [sE, sT t] := by unfold shapeOf; first | rfl | decide +kernel
theorem fit_again {t : Int} {r : List D} (h : r.length = 2) : isPlain t (.str "again" :: r) = ((zipD r (shapeOf t "again")).all (pr fits) && true) := by
  obtain ⟨a, b, rfl⟩ : ∃ a b, r = [a, b] := by
    rcases r with _ | ⟨a, _ | ⟨b, _ | ⟨c, _ | ⟨d, _ | ⟨e, _ | ⟨f, r⟩⟩⟩⟩⟩⟩ <;> first | exact ⟨_, _, rfl⟩ | (simp at h)
  rw [shapeOf_again]
  show (isName a && isIn 0 t b) = _
  simp [zipD, pr, fits_sE, fits_in, sT, sM, sN, ne2]
theorem shapeOf_split {t : Int} : shapeOf t "split" = [sE, sE, sE, sT t, sM] := by unfold shapeOf; first | rfl | decide +kernel
theorem fit_split {t : Int} {r : List D} (h : r.length = 5) : isPlain t (.str "split" :: r) = ((zipD r (shapeOf t "split")).all (pr fits) && ne2 r) := by
  obtain ⟨a, b, c, d, e, rfl⟩ : ∃ a b c d e, r = [a, b, c, d, e] := by
    rcases r with _ | ⟨a, _ | ⟨b, _ | ⟨c, _ | ⟨d, _ | ⟨e, _ | ⟨f, r⟩⟩⟩⟩⟩⟩ <;> first | exact ⟨_, _, _, _, _, rfl⟩ | (simp at h)
  rw [shapeOf_split]
  show ((isName a && (isName b && isName c)) && (neS a b && (isIn 0 t d && isIn 3 20 e))) = _
  simp [zipD, pr, fits_sE, fits_in, sT, sM, sN, ne2]
  cases isName a <;> cases isName b <;> cases isName c <;> cases neS a b <;> cases isIn 0 t d <;> cases isIn 3 20 e <;> rfl
end
end KK
end Rf
end T_K01Mq
section T_K01Mr
set_option Elab.async false
set_option linter.all false
set_option maxRecDepth 100000
set_option maxHeartbeats 4000000
namespace Rf
namespace KK
open PySem L2
section
variable {k j n : Nat} {M : Mem}
def isPlainD (t : Int) : D → Bool
  | .tup (.str w :: r) => isPlain t (.str w :: r)
  | _ => false
/-- isPlain by the word's shape -/
theorem plain_shape {t : Int} {w : Str} {r : List D} (hl : (shapeOf t w).length = r.length) (hr : r.length ≠ 0) : isPlain t (.str w :: r) = ((zipD r (shapeOf t w)).all (pr fits) && (if w = "split" then ne2 r else true)) := by
  by_cases h1 : w = "cut"
  · subst h1; rw [if_neg (by decide +kernel)]; exact fit_cut (by rw [← hl, shapeOf_cut]; rfl)
  by_cases h2 : w = "outer"
  · subst h2; rw [if_neg (by decide +kernel)]; exact fit_outer (by rw [← hl, shapeOf_outer]; rfl)
  by_cases h3 : w = "inner"
  · subst h3; rw [if_neg (by decide +kernel)]; exact fit_inner (by rw [← hl, shapeOf_inner]; rfl)
  by_cases h4 : w = "join"
  · subst h4; rw [if_neg (by decide +kernel)]; exact fit_join (by rw [← hl, shapeOf_join]; rfl)
  by_cases h5 : w = "half"
  · subst h5; rw [if_neg (by decide +kernel)]; exact fit_half (by rw [← hl, shapeOf_half]; rfl)
  by_cases h6 : w = "hold"
  · subst h6; rw [if_neg (by decide +kernel)]; exact fit_hold (by rw [← hl, shapeOf_hold]; rfl)
  by_cases h7 : w = "read"
  · subst h7; rw [if_neg (by decide +kernel)]; exact fit_read (by rw [← hl, shapeOf_read]; rfl)
  by_cases h8 : w = "again"
  · subst h8; rw [if_neg (by decide +kernel)]; exact fit_again (by rw [← hl, shapeOf_again]; rfl)
  by_cases h9 : w = "split"
  · subst h9; rw [if_pos rfl]; exact fit_split (by rw [← hl, shapeOf_split]; rfl)
  · exfalso
    apply hr
    rw [← hl]
    unfold shapeOf
    simp only [if_neg h1, if_neg h2, if_neg h3, if_neg h4, if_neg h5, if_neg h6, if_neg h7, if_neg h8, if_neg h9]
    rfl
theorem plain_no {t : Int} {w : Str} {r : List D} (hl : ¬ (shapeOf t w).length = r.length) : isPlain t (.str w :: r) = false := by
  by_cases h1 : w = "cut"
  · subst h1
    rw [shapeOf_cut] at hl
    rcases r with _ | ⟨a, _ | ⟨b, _ | ⟨c, _ | ⟨d, _ | ⟨e, _ | ⟨f, r⟩⟩⟩⟩⟩⟩ <;> first | rfl | (exact absurd rfl hl) | (simp [isPlain])
  by_cases h2 : w = "outer"
  · subst h2
    rw [shapeOf_outer] at hl
    rcases r with _ | ⟨a, _ | ⟨b, _ | ⟨c, _ | ⟨d, _ | ⟨e, _ | ⟨f, r⟩⟩⟩⟩⟩⟩ <;> first | rfl | (exact absurd rfl hl) | (simp [isPlain])
  by_cases h3 : w = "inner"
  · subst h3
    rw [shapeOf_inner] at hl
    rcases r with _ | ⟨a, _ | ⟨b, _ | ⟨c, _ | ⟨d, _ | ⟨e, _ | ⟨f, r⟩⟩⟩⟩⟩⟩ <;> first | rfl | (exact absurd rfl hl) | (simp [isPlain])
  by_cases h4 : w = "join"
  · subst h4
    rw [shapeOf_join] at hl
    rcases r with _ | ⟨a, _ | ⟨b, _ | ⟨c, _ | ⟨d, _ | ⟨e, _ | ⟨f, r⟩⟩⟩⟩⟩⟩ <;> first | rfl | (exact absurd rfl hl) | (simp [isPlain])
  by_cases h5 : w = "half"
  · subst h5
    rw [shapeOf_half] at hl
    rcases r with _ | ⟨a, _ | ⟨b, _ | ⟨c, _ | ⟨d, _ | ⟨e, _ | ⟨f, r⟩⟩⟩⟩⟩⟩ <;> first | rfl | (exact absurd rfl hl) | (simp [isPlain])
  by_cases h6 : w = "hold"
  · subst h6
    rw [shapeOf_hold] at hl
    rcases r with _ | ⟨a, _ | ⟨b, _ | ⟨c, _ | ⟨d, _ | ⟨e, _ | ⟨f, r⟩⟩⟩⟩⟩⟩ <;> first | rfl | (exact absurd rfl hl) | (simp [isPlain])
  by_cases h7 : w = "read"
  · subst h7
    rw [shapeOf_read] at hl
    rcases r with _ | ⟨a, _ | ⟨b, _ | ⟨c, _ | ⟨d, _ | ⟨e, _ | ⟨f, r⟩⟩⟩⟩⟩⟩ <;> first | rfl | (exact absurd rfl hl) | (simp [isPlain])
  by_cases h8 : w = "again"
  · subst h8
    rw [shapeOf_again] at hl
    rcases r with _ | ⟨a, _ | ⟨b, _ | ⟨c, _ | ⟨d, _ | ⟨e, _ | ⟨f, r⟩⟩⟩⟩⟩⟩ <;> first | rfl | (exact absurd rfl hl) | (simp [isPlain])
  by_cases h9 : w = "split"
  · subst h9
    rw [shapeOf_split] at hl
    rcases r with _ | ⟨a, _ | ⟨b, _ | ⟨c, _ | ⟨d, _ | ⟨e, _ | ⟨f, r⟩⟩⟩⟩⟩⟩ <;> first | rfl | (exact absurd rfl hl) | (simp [isPlain])
  exact isPlain_no ⟨h1, h2, h3, h4, h5, h6, h7, h8, h9⟩
end
end KK
end Rf
end T_K01Mr
section T_K01Ms
set_option Elab.async false
set_option linter.all false
set_option maxRecDepth 100000
set_option maxHeartbeats 4000000
namespace Rf
namespace KK
open PySem L2
section
variable {k j n : Nat} {M : Mem}
theorem nin346 {l : Int} : eCo .nin (.int l) (.lst [.int 3, .int 4, .int 6]) = some (!(decide (l = 3) || (decide (l = 4) || decide (l = 6)))) := by
  show some (!((3 == l) || ((4 == l) || ((6 == l) || false)))) = _
  rw [Bool.or_false]
  have hh : ∀ a : Int, (a == l) = decide (l = a) := by
    intro a
    by_cases h : l = a
    · subst h; simp
    · have h' : ¬ a = l := fun g => h g.symm
      simp [h, h']
  rw [hh, hh, hh]
theorem getShape {t : Int} {w : Str} : eBi (M ++ [.dic shK (shV t)]) .get2 [.cell M.length, .str w, .lst []] = some (.lst (shapeOf t w)) := by
  have hM : (M ++ [Cell.dic shK (shV t)])[M.length]? = some (.dic shK (shV t)) := by simp
  show (eGet (M ++ [.dic shK (shV t)]) (.cell M.length) (.str w)).map (fun o => o.getD (.lst [])) = _
  have : eGet (M ++ [.dic shK (shV t)]) (.cell M.length) (.str w) = some (lookD shK (shV t) (.inr w)) := by
    unfold eGet dicOf
    simp only [hM]
    rfl
  rw [this]
  show some ((lookD shK (shV t) (.inr w)).getD (.lst [])) = _
  rw [look_shape]
end
end KK
end Rf
end T_K01Ms
section T_K01Mt
set_option Elab.async false
set_option linter.all false
set_option maxRecDepth 100000
set_option maxHeartbeats 4000000
namespace Rf
namespace KK
open PySem L2
section
variable {k j n : Nat} {M : Mem}
theorem lawplain_sets {cl : Calls} {t : Int} {a b c d e f g : Option D} :
    exs cl [.asg (.nm 5) (.dicM [.inr "cut", .inr "outer", .inr "inner", .inr "join"] (.cons (.lst (.cons (.con (.str "")) (.cons (.var 2) (.cons (.var 3) .nil)))) (.cons (.lst (.cons (.con (.str "")) (.cons (.con (.str "")) (.cons (.var 4) .nil)))) (.cons (.lst (.cons (.con (.str "")) (.cons (.con (.str "")) (.cons (.var 4) .nil)))) (.cons (.lst (.cons (.con (.str "")) (.cons (.con (.str "")) (.cons (.con (.str "")) .nil)))) .nil)))))] [a, b, some (sT t), some sM, some sN, c, d, e, f] M
      = some (.nx, [a, b, some (sT t), some sM, some sN, some (.cell M.length), d, e, f], M ++ [.dic k4 [.lst [sE, sT t, sM], .lst [sE, sE, sN], .lst [sE, sE, sN], .lst [sE, sE, sE]]]) := by
  have s3 : 3 ≤ sizeLine := line1 3 (by decide)
  have hm := merge4 (a := .lst [sE, sT t, sM]) (b := .lst [sE, sE, sN]) (c := .lst [sE, sE, sN]) (d := .lst [sE, sE, sE])
  have he : ev cl (.dicM [.inr "cut", .inr "outer", .inr "inner", .inr "join"] (.cons (.lst (.cons (.con (.str "")) (.cons (.var 2) (.cons (.var 3) .nil)))) (.cons (.lst (.cons (.con (.str "")) (.cons (.con (.str "")) (.cons (.var 4) .nil)))) (.cons (.lst (.cons (.con (.str "")) (.cons (.con (.str "")) (.cons (.var 4) .nil)))) (.cons (.lst (.cons (.con (.str "")) (.cons (.con (.str "")) (.cons (.con (.str "")) .nil)))) .nil))))) [a, b, some (sT t), some sM, some sN, c, d, e, f] M = ok (.cell M.length) (M ++ [.dic k4 [.lst [sE, sT t, sM], .lst [sE, sE, sN], .lst [sE, sE, sN], .lst [sE, sE, sE]]]) := by
    show (evs cl _ _ M).bind _ = _
    have hx : evs cl (.cons (.lst (.cons (.con (.str "")) (.cons (.var 2) (.cons (.var 3) .nil)))) (.cons (.lst (.cons (.con (.str "")) (.cons (.con (.str "")) (.cons (.var 4) .nil)))) (.cons (.lst (.cons (.con (.str "")) (.cons (.con (.str "")) (.cons (.var 4) .nil)))) (.cons (.lst (.cons (.con (.str "")) (.cons (.con (.str "")) (.cons (.con (.str "")) .nil)))) .nil)))) [a, b, some (sT t), some sM, some sN, c, d, e, f] M = ok [.lst [sE, sT t, sM], .lst [sE, sE, sN], .lst [sE, sE, sN], .lst [sE, sE, sE]] M := by
      simp [s3, sE]
    rw [hx]
    simp only [s_bind_ok]
    rw [if_pos ⟨rfl, by decide, rfl⟩, hm]
  simp [he]
end
end KK
end Rf
end T_K01Mt
section T_K01Mu
set_option Elab.async false
set_option linter.all false
set_option maxRecDepth 100000
set_option maxHeartbeats 4000000
namespace Rf
namespace KK
open PySem L2
section
variable {k j n : Nat} {M : Mem}
theorem lawplain_set1 {cl : Calls} {t : Int} {a b c d e f : Option D} {vs : List D} :
    exs cl [.setDs (.cons (.var 5) (.cons (.var 5) (.cons (.var 5) .nil))) (.cons (.con (.str "half")) (.cons (.con (.str "hold")) (.cons (.con (.str "read")) .nil))) (.tup (.cons (.lst (.cons (.con (.str "")) (.cons (.con (.str "")) .nil))) (.cons (.lst (.cons (.con (.str "")) (.cons (.con (.str "")) .nil))) (.cons (.lst (.cons (.con (.str "")) (.cons (.var 2) .nil))) .nil))))] [a, b, some (sT t), some sM, some sN, some (.cell M.length), d, e, f] (M ++ [.dic k4 vs])
      = some (.nx, [a, b, some (sT t), some sM, some sN, some (.cell M.length), d, e, f], M ++ [.dic (k4 ++ [.inr "half"] ++ [.inr "hold"] ++ [.inr "read"]) (vs ++ [.lst [sE, sE]] ++ [.lst [sE, sE]] ++ [.lst [sE, sT t]])]) := by
  have s3 : 3 ≤ sizeLine := line1 3 (by decide)
  have h1 := setD_new (M := M) (ks := k4) (xs := vs) (d := .str "half") (v := .lst [sE, sE]) (q := .inr "half") rfl (by decide +kernel) (by decide) rfl
  have h2 := setD_new (M := M) (ks := k4 ++ [.inr "half"]) (xs := vs ++ [.lst [sE, sE]]) (d := .str "hold") (v := .lst [sE, sE]) (q := .inr "hold") rfl (by decide +kernel) (by decide) rfl
  have h3 := setD_new (M := M) (ks := k4 ++ [.inr "half"] ++ [.inr "hold"]) (xs := vs ++ [.lst [sE, sE]] ++ [.lst [sE, sE]]) (d := .str "read") (v := .lst [sE, sT t]) (q := .inr "read") rfl (by decide +kernel) (by decide) rfl
  have hx : ∀ N, evs cl (.cons (.lst (.cons (.con (.str "")) (.cons (.con (.str "")) .nil))) (.cons (.lst (.cons (.con (.str "")) (.cons (.con (.str "")) .nil))) (.cons (.lst (.cons (.con (.str "")) (.cons (.var 2) .nil))) .nil))) [a, b, some (sT t), some sM, some sN, some (.cell M.length), d, e, f] N = ok [.lst [sE, sE], .lst [sE, sE], .lst [sE, sT t]] N := by
    intro N; simp [two, sE]
  rw [exs_cons]
  unfold ex
  rw [ev_tup, hx]
  simp only [s_bind_ok]
  simp at h1 h2 h3
  simp [s3, setDsS, CEs.len, h1, h2, h3]
theorem lawplain_set2 {cl : Calls} {t : Int} {a b c d e f : Option D} {vs : List D} :
    exs cl [.setDs (.cons (.var 5) (.cons (.var 5) .nil)) (.cons (.con (.str "again")) (.cons (.con (.str "split")) .nil)) (.tup (.cons (.lst (.cons (.con (.str "")) (.cons (.var 2) .nil))) (.cons (.lst (.cons (.con (.str "")) (.cons (.con (.str "")) (.cons (.con (.str "")) (.cons (.var 2) (.cons (.var 3) .nil)))))) .nil)))] [a, b, some (sT t), some sM, some sN, some (.cell M.length), d, e, f] (M ++ [.dic (k4 ++ [.inr "half"] ++ [.inr "hold"] ++ [.inr "read"]) vs])
      = some (.nx, [a, b, some (sT t), some sM, some sN, some (.cell M.length), d, e, f], M ++ [.dic shK (vs ++ [.lst [sE, sT t]] ++ [.lst [sE, sE, sE, sT t, sM]])]) := by
  have s5 : 5 ≤ sizeLine := line1 5 (by decide)
  have h1 := setD_new (M := M) (ks := k4 ++ [.inr "half"] ++ [.inr "hold"] ++ [.inr "read"]) (xs := vs) (d := .str "again") (v := .lst [sE, sT t]) (q := .inr "again") rfl (by decide +kernel) (by decide) rfl
  have h2 := setD_new (M := M) (ks := k4 ++ [.inr "half"] ++ [.inr "hold"] ++ [.inr "read"] ++ [.inr "again"]) (xs := vs ++ [.lst [sE, sT t]]) (d := .str "split") (v := .lst [sE, sE, sE, sT t, sM]) (q := .inr "split") rfl (by decide +kernel) (by decide) rfl
  have hx : ∀ N, evs cl (.cons (.lst (.cons (.con (.str "")) (.cons (.var 2) .nil))) (.cons (.lst (.cons (.con (.str "")) (.cons (.con (.str "")) (.cons (.con (.str "")) (.cons (.var 2) (.cons (.var 3) .nil)))))) .nil)) [a, b, some (sT t), some sM, some sN, some (.cell M.length), d, e, f] N = ok [.lst [sE, sT t], .lst [sE, sE, sE, sT t, sM]] N := by
    intro N; simp [two, s5, sE]
  rw [exs_cons]
  unfold ex
  rw [ev_tup, hx]
  simp only [s_bind_ok]
  simp at h1 h2
  simp [two, setDsS, CEs.len, h1, h2, shK]
end
end KK
end Rf
end T_K01Mu
section T_K01Mv
set_option Elab.async false
set_option linter.all false
set_option maxRecDepth 100000
set_option maxHeartbeats 4000000
namespace Rf
namespace KK
open PySem L2
section
variable {k j n : Nat} {M : Mem}
theorem exs_app {cl : Calls} {x y : List CS} {e : Env} {M : Mem} : exs cl (x ++ y) e M = seqS (exs cl x e M) (exs cl y) := by
  induction x generalizing e M with
  | nil => rfl
  | cons s r ih =>
    rw [List.cons_append, exs_cons, exs_cons]
    cases h : ex cl s e M with
    | none => rfl
    | some q =>
      obtain ⟨fl, e1, M1⟩ := q
      cases fl <;> first | rfl | exact ih
theorem slc1 {x : D} {r : List D} : eSlc (.tup (x :: r)) (some 1) none = some (.tup r) := by
  show some (D.tup (cutD (x :: r) (some 1) none)) = _
  congr 2
  unfold cutD
  have h1 : HT.sIx (x :: r).length 0 (some 1) = 1 := by
    unfold HT.sIx
    simp
  have h2 : HT.sIx (x :: r).length (x :: r).length none = r.length + 1 := rfl
  rw [h1, h2]
  simp
def lpPre : List CS := b__law_is_plain.take 2
def lpDict : List CS := (b__law_is_plain.drop 2).take 1
def lpSet1 : List CS := (b__law_is_plain.drop 3).take 1
def lpSet2 : List CS := (b__law_is_plain.drop 4).take 1
def lpPost : List CS := b__law_is_plain.drop 5
theorem lp_split : b__law_is_plain = lpPre ++ (lpDict ++ (lpSet1 ++ (lpSet2 ++ lpPost))) := rfl
theorem lp_mid {cl : Calls} {t : Int} {a b d e f : Option D} :
    exs cl (lpDict ++ (lpSet1 ++ (lpSet2 ++ lpPost))) [a, b, some (sT t), some sM, some sN, none, d, e, f] M = exs cl lpPost [a, b, some (sT t), some sM, some sN, some (.cell M.length), d, e, f] (M ++ [.dic shK (shV t)]) := by
  rw [exs_app, show exs cl lpDict [a, b, some (sT t), some sM, some sN, none, d, e, f] M = _ from lawplain_sets (c := none) (g := none), seq_nx]
  rw [exs_app, show exs cl lpSet1 _ _ = _ from lawplain_set1 (c := none), seq_nx]
  rw [exs_app, show exs cl lpSet2 _ _ = _ from lawplain_set2 (c := none), seq_nx]
  rfl
end
end KK
end Rf
end T_K01Mv
section T_K01Mw
set_option Elab.async false
set_option linter.all false
set_option maxRecDepth 100000
set_option maxHeartbeats 4000000
namespace Rf
namespace KK
open PySem L2
section
variable {k j n : Nat} {M : Mem}
theorem shapeOf_fit {t : Int} {w : Str} : ∀ z ∈ shapeOf t w, z = .str "" ∨ ∃ lo hi : Int, z = .lst [.int lo, .int hi] := by
  intro z hz
  have h : ∀ l : List D, l ∈ [[sE, sT t, sM], [sE, sE, sN], [sE, sE, sE], [sE, sE], [sE, sT t], [sE, sE, sE, sT t, sM], []] → z ∈ l → z = .str "" ∨ ∃ lo hi : Int, z = .lst [.int lo, .int hi] := by
    intro l hl hz
    simp only [List.mem_cons, List.not_mem_nil, or_false] at hl
    rcases hl with rfl | rfl | rfl | rfl | rfl | rfl | rfl <;> simp only [List.mem_cons, List.not_mem_nil, or_false] at hz
    all_goals first | (rcases hz with rfl | rfl | rfl | rfl | rfl <;> first | exact .inl rfl | exact .inr ⟨_, _, rfl⟩) | (rcases hz with rfl | rfl | rfl <;> first | exact .inl rfl | exact .inr ⟨_, _, rfl⟩) | (rcases hz with rfl | rfl <;> first | exact .inl rfl | exact .inr ⟨_, _, rfl⟩)
  unfold shapeOf at hz
  repeat (first | (split at hz; · exact h _ (by simp) hz) | exact h _ (by simp) hz)
end
end KK
end Rf
end T_K01Mw
section T_K01Mx
set_option Elab.async false
set_option linter.all false
set_option maxRecDepth 100000
set_option maxHeartbeats 4000000
namespace Rf
namespace KK
open PySem L2
theorem call_exM {T : Tab} {n f : Nat} {fd : Fd} {args : List D} {M M' : Mem} {d : D} (h : T f = some fd) (ha : args.length = fd.arity) (hd : d.low M.length = true) (hm : M'.take M.length = M)
    (hb : ∃ e, exs (callN T n) fd.body (args.map some ++ List.replicate (fd.slots - args.length) none) M = some (.ret d, e, M')) : callN T (n + 1) f args M = ok d M := by
  obtain ⟨e, hb⟩ := hb
  rw [call_ret h ha hb, leave_low hd, hm]
section
variable {k j n : Nat} {M : Mem}
theorem isPlainD_no {t : Int} {d : D} (h : isTy .tuple d = some false) : isPlainD t d = false := by cases d <;> first | rfl | cases h
theorem isPlain_len {t : Int} {w : Str} {r : List D} (h : (!(decide (((D.str w :: r).length : Int) = 3) || (decide (((D.str w :: r).length : Int) = 4) || decide (((D.str w :: r).length : Int) = 6)))) = true) : isPlain t (.str w :: r) = false := by
  rcases r with _ | ⟨a, _ | ⟨b, _ | ⟨c, _ | ⟨d, _ | ⟨e, _ | ⟨f, r⟩⟩⟩⟩⟩⟩ <;> first | rfl | (simp at h; done) | (simp [isPlain])
theorem isPlainD_first {t : Int} {x : D} {r : List D} (h : isTy .str x = some false) : isPlainD t (.tup (x :: r)) = false := by cases x <;> first | rfl | cases h
theorem ps_law {ts : List D} {p s : D} {w : Str} {r : List D} (h : okD k j (.tup (.str w :: r)) = true) (hk : k ≤ 500) (hl : (!(decide (((D.str w :: r).length : Int) = 3) || (decide (((D.str w :: r).length : Int) = 4) || decide (((D.str w :: r).length : Int) = 6)))) = false) {c0 c1 c2 : Option D} :
    ∃ e, exs (callN gi.tab (n + 1)) lpPost [some (.tup [.tup ts, p, s]), some (.tup (.str w :: r)), some (sT ((ts.length : Int) - 1)), some sM, some sN, some (.cell M.length), c0, c1, c2] (M ++ [.dic shK (shV ((ts.length : Int) - 1))]) = some (.ret (.bl (isPlain ((ts.length : Int) - 1) (.str w :: r))), e, M ++ [.dic shK (shV ((ts.length : Int) - 1))]) := by
  obtain ⟨j', rfl, hlen, hx⟩ := okD_tup h
  generalize ht : (ts.length : Int) - 1 = t
  have hg := getShape (M := M) (t := t) (w := w)
  have hrc : recv (M ++ [.dic shK (shV t)]) .get2 (.cell M.length) = some () := by
    have hM : (M ++ [Cell.dic shK (shV t)])[M.length]? = some (.dic shK (shV t)) := by simp
    unfold recv dicOf
    simp only [hM]
    rfl
  have s0 : 0 ≤ sizeLine := line1 0 (by decide)
  have hget : ev (callN gi.tab (n + 1)) (.me .get2 (.var 5) (.cons (.idx (.var 1) (.con (.int (0)))) (.cons (.lst .nil) .nil))) [some (.tup [.tup ts, p, s]), some (.tup (.str w :: r)), some (sT t), some sM, some sN, some (.cell M.length), c0, c1, c2] (M ++ [.dic shK (shV t)]) = ok (.lst (shapeOf t w)) (M ++ [.dic shK (shV t)]) := by
    unfold ev
    simp [hrc, iq0, hg, s0]
  have hcl : ((D.str w :: r).length : Int) - 1 = (r.length : Int) := by simp
  by_cases hlen2 : (shapeOf t w).length = r.length
  · have hr0 : r.length ≠ 0 := by
      intro h0
      rcases r with _ | ⟨a, r⟩
      · simp at hl
      · cases h0
    rw [plain_shape hlen2 hr0]
    have hs := forS_inv (tg := .tp (.cons (.nm 7) (.cons (.nm 8) .nil))) (b := exs (callN gi.tab (n + 1)) plainLoop) (M := M ++ [.dic shK (shV t)]) (r := .bl false) (pr fits)
      (fun e => ∃ a b, e = [some (.tup [.tup ts, p, s]), some (.tup (.str w :: r)), some (sT t), some sM, some sN, some (.cell M.length), some (.lst (shapeOf t w)), a, b]) (zipD r (shapeOf t w))
      [some (.tup [.tup ts, p, s]), some (.tup (.str w :: r)), some (sT t), some sM, some sN, some (.cell M.length), some (.lst (shapeOf t w)), c1, c2] ⟨_, _, rfl⟩ (by
        intro z hz e he
        obtain ⟨x, so, rfl, h1, h2⟩ := mem_zipD hz
        obtain ⟨u1, u2, rfl⟩ := he
        exact ⟨[some (.tup [.tup ts, p, s]), some (.tup (.str w :: r)), some (sT t), some sM, some sN, some (.cell M.length), some (.lst (shapeOf t w)), some x, some so], _, rfl, ⟨_, _, rfl⟩, plainLoop_eq (hx x (List.mem_cons_of_mem _ h1)) (shapeOf_fit so h2)⟩)
    have hz : evI (callN gi.tab (n + 1)) (.zip (.slc (.var 1) (.at (.con (.int (1)))) .no) (.var 6)) [some (.tup [.tup ts, p, s]), some (.tup (.str w :: r)), some (sT t), some sM, some sN, some (.cell M.length), some (.lst (shapeOf t w)), c1, c2] (M ++ [.dic shK (shV t)]) = ok (zipD r (shapeOf t w)) (M ++ [.dic shK (shV t)]) := by
      unfold evI
      simp [slc1]
    unfold plainLoop at hs
    have hpost : lpPost = [.asg (.nm 6) (.me .get2 (.var 5) (.cons (.idx (.var 1) (.con (.int (0)))) (.cons (.lst .nil) .nil))),
      .ite (.cmp .ne (.bi .len (.cons (.var 6) .nil)) (.bin .sub (.bi .len (.cons (.var 1) .nil)) (.con (.int (1))))) [.ret (.con (.bl false))] [],
      .for_ (.tp (.cons (.nm 7) (.cons (.nm 8) .nil))) (.zip (.slc (.var 1) (.at (.con (.int (1)))) .no) (.var 6)) plainLoop,
      .ret (.or (.cmp .ne (.idx (.var 1) (.con (.int (0)))) (.con (.str "split"))) (.cmp .ne (.idx (.var 1) (.con (.int (1)))) (.idx (.var 1) (.con (.int (2))))))] := rfl
    rw [hpost]
    unfold plainLoop
    cases g : (zipD r (shapeOf t w)).all (pr fits) with
    | false =>
      obtain ⟨e, he⟩ := hs.2 g
      refine ⟨e, ?_⟩
      simp [hget, hcl, hlen2, hz, he]
    | true =>
      obtain ⟨e, ⟨u1, u2, rfl⟩, he⟩ := hs.1 g
      refine ⟨[some (.tup [.tup ts, p, s]), some (.tup (.str w :: r)), some (sT t), some sM, some sN, some (.cell M.length), some (.lst (shapeOf t w)), u1, u2], ?_⟩
      have hcw := strOk_of (hx (.str w) (by simp))
      have e6 : eCo .ne (.str w) (.str "split") = some (!decide (w = "split")) := by
        show (eEq _ _).map not = _
        rw [eEq_str hcw (cmp_str (by decide +kernel))]; rfl
      by_cases hw : w = "split"
      · rw [decide_eq_true hw] at e6
        rw [if_pos hw]
        subst hw
        rw [shapeOf_split] at hlen2 g hs he hz hget
        rcases r with _ | ⟨a, _ | ⟨b, r⟩⟩
        · cases hlen2
        · cases hlen2
        have ga : isName a = true ∧ isName b = true := by
          rcases r with _ | ⟨c, r⟩
          · cases hlen2
          · simp only [zipD, List.all_cons, pr, Bool.and_eq_true, fits_sE] at g
            exact ⟨g.1, g.2.1⟩
        obtain ⟨sa, rfl⟩ := isName_eq ga.1
        obtain ⟨sb, rfl⟩ := isName_eq ga.2
        have hn := neq_str (hx (.str sa) (by simp)) (hx (.str sb) (by simp))
        have hl5 : (5 : Int) = (r.length : Int) + 1 + 1 := by simp at hlen2; omega
        simp [hget, hcl, hz, he, iq0, iq1, iq2, e6, hn, ne2, ← hl5, shapeOf_split]
      · rw [decide_eq_false hw] at e6
        rw [if_neg hw]
        simp [hget, hcl, hlen2, hz, he, iq0, e6]
  · rw [plain_no hlen2]
    refine ⟨[some (.tup [.tup ts, p, s]), some (.tup (.str w :: r)), some (sT t), some sM, some sN, some (.cell M.length), some (.lst (shapeOf t w)), c1, c2], ?_⟩
    have hi : ¬ ((shapeOf t w).length : Int) = (r.length : Int) := by omega
    rw [show lpPost = (.asg (.nm 6) (.me .get2 (.var 5) (.cons (.idx (.var 1) (.con (.int (0)))) (.cons (.lst .nil) .nil)))) :: (.ite (.cmp .ne (.bi .len (.cons (.var 6) .nil)) (.bin .sub (.bi .len (.cons (.var 1) .nil)) (.con (.int (1))))) [.ret (.con (.bl false))] []) :: lpPost.drop 2 from rfl]
    simp [hget, hcl, hi]
theorem law_is_plain_eq {ts : List D} {p s d : D} (h : okD k j d = true) (hk : k ≤ 500) : callN gi.tab (n + 2) 49 [.tup [.tup ts, p, s], d] M = ok (.bl (isPlainD ((ts.length : Int) - 1) d)) M := by
  have tyt := ty_tup h
  by_cases hd : ∃ xs, d = .tup xs
  · obtain ⟨xs, rfl⟩ := hd
    obtain ⟨j', rfl, hlen, hx⟩ := okD_tup h
    cases hl : (!(decide ((xs.length : Int) = 3) || (decide ((xs.length : Int) = 4) || decide ((xs.length : Int) = 6)))) with
    | true =>
      have hn := nin346 (l := (xs.length : Int))
      rw [hl] at hn
      have s3 : 3 ≤ sizeLine := line1 3 (by decide)
      have : isPlainD ((ts.length : Int) - 1) (.tup xs) = false := by
        rcases xs with _ | ⟨x, r⟩
        · rfl
        · cases x <;> first | rfl | exact isPlain_len hl
      rw [this]
      refine call_ex (fd := f__law_is_plain.fd) rfl rfl ⟨[some (.tup [.tup ts, p, s]), some (.tup xs), none, none, none, none, none, none, none], ?_⟩
      show exs _ b__law_is_plain [some (.tup [.tup ts, p, s]), some (.tup xs), none, none, none, none, none, none, none] M = _
      simp [b__law_is_plain, tyT, hn, s3]
    | false =>
      have hn := nin346 (l := (xs.length : Int))
      rw [hl] at hn
      have s3 : 3 ≤ sizeLine := line1 3 (by decide)
      rcases xs with _ | ⟨x, r⟩
      · cases hl
      have hx0 := hx x (by simp)
      cases hs : isTy .str x with
      | none => rw [ty_str hx0] at hs; cases hs
      | some b =>
        cases b with
        | false =>
          rw [isPlainD_first hs]
          refine call_ex (fd := f__law_is_plain.fd) rfl rfl ⟨[some (.tup [.tup ts, p, s]), some (.tup (x :: r)), none, none, none, none, none, none, none], ?_⟩
          show exs _ b__law_is_plain [some (.tup [.tup ts, p, s]), some (.tup (x :: r)), none, none, none, none, none, none, none] M = _
          rw [show ((x :: r).length : Int) = (r.length : Int) + 1 from by simp] at hn
          simp [b__law_is_plain, tyT, hn, s3, iq0, hs]
        | true =>
          obtain ⟨w, rfl⟩ : ∃ w, x = .str w := by cases x <;> first | exact ⟨_, rfl⟩ | (cases hs)
          refine call_exM (fd := f__law_is_plain.fd) (M' := M ++ [.dic shK (shV ((ts.length : Int) - 1))]) rfl rfl rfl (by simp) ?_
          show ∃ e, exs _ b__law_is_plain [some (.tup [.tup ts, p, s]), some (.tup (.str w :: r)), none, none, none, none, none, none, none] M = _
          have hpre : exs (callN gi.tab (n + 1)) lpPre [some (.tup [.tup ts, p, s]), some (.tup (.str w :: r)), none, none, none, none, none, none, none] M = some (.nx, [some (.tup [.tup ts, p, s]), some (.tup (.str w :: r)), some (sT ((ts.length : Int) - 1)), some sM, some sN, none, none, none, none], M) := by
            show exs _ [_, _] _ M = _
            rw [show ((D.str w :: r).length : Int) = (r.length : Int) + 1 from by simp] at hn
            simp [tyT, hn, s3, iq0, hs, two]
            exact ⟨rfl, rfl, rfl⟩
          rw [lp_split, exs_app, hpre, seq_nx, lp_mid]
          exact ps_law h hk hl
  · have ty : isTy .tuple d = some false := by
      rw [tyt]
      cases d <;> first | rfl | exact absurd ⟨_, rfl⟩ hd
    rw [isPlainD_no ty]
    refine call_ex (fd := f__law_is_plain.fd) rfl rfl ⟨[some (.tup [.tup ts, p, s]), some d, none, none, none, none, none, none, none], ?_⟩
    show exs _ b__law_is_plain [some (.tup [.tup ts, p, s]), some d, none, none, none, none, none, none, none] M = _
    simp [b__law_is_plain, ty]
end
end KK
end Rf
end T_K01Mx
section T_K01My
set_option Elab.async false
set_option linter.all false
set_option maxRecDepth 100000
set_option maxHeartbeats 4000000
namespace Rf
namespace KK
open PySem L2
/-! ### steps -/
def isIf : D → Bool
  | .tup (.str w :: _) => decide (w = "if")
  | _ => false
def isBody (t : Int) : D → Bool
  | .tup xs => decide ((xs.length : Int) ≤ 3) && xs.all (isPlainD t)
  | _ => false
def isBr (t : Int) : List D → Bool
  | [a, b, c, x, y] => (isName a && isName b) && (isSeen c && (isBody t x && isBody t y))
  | _ => false
def isStep (t : Int) : D → Bool
  | .tup (.str w :: r) => if w = "if" then isBr t r else isPlain t (.str w :: r)
  | _ => false
section
variable {k j n : Nat} {M : Mem}
theorem plain_if {t : Int} {r : List D} : isPlain t (.str "if" :: r) = false := by
  refine isPlain_no ⟨?_, ?_, ?_, ?_, ?_, ?_, ?_, ?_, ?_⟩ <;> decide +kernel
theorem isStep_ne {t : Int} {d : D} (h : isIf d = false) : isStep t d = isPlainD t d := by
  unfold isStep isPlainD
  split
  · rename_i w r
    have : ¬ w = "if" := of_decide_eq_false h
    rw [if_neg this]
  · rename_i hh
    first
      | rfl
      | (split
         · exact absurd rfl (hh _ _)
         · rfl)
theorem isIf_eq {d : D} (h : isIf d = true) : ∃ r, d = .tup (.str "if" :: r) := by
  unfold isIf at h
  split at h
  · rename_i w r
    have : w = "if" := of_decide_eq_true h
    exact ⟨r, by rw [this]⟩
  · cases h
theorem isStep_if {t : Int} {r : List D} : isStep t (.tup (.str "if" :: r)) = isBr t r := by
  unfold isStep
  exact if_pos rfl
/-- a thing is no tuple, or empty, or begins with no text, or with a text -/
theorem step_cases {d : D} (h : okD k j d = true) (hj : j ≤ 60) : isTy .tuple d = some false ∨ d = .tup [] ∨ (∃ x r, d = .tup (x :: r) ∧ isTy .str x = some false ∧ eEq d (.tup []) = some false) ∨ (∃ w r, d = .tup (.str w :: r) ∧ eEq d (.tup []) = some false) := by
  have tyt := ty_tup h
  have hc := okD_cmp h hj
  by_cases hd : ∃ xs, d = .tup xs
  · obtain ⟨xs, rfl⟩ := hd
    rcases xs with _ | ⟨x, r⟩
    · exact .inr (.inl rfl)
    · have he : eEq (.tup (x :: r)) (.tup []) = some false := (eEq_unit hc).trans rfl
      obtain ⟨j', rfl, hlen, hx⟩ := okD_tup h
      have tys := ty_str (hx x (by simp))
      by_cases hs : ∃ w, x = .str w
      · obtain ⟨w, rfl⟩ := hs
        exact .inr (.inr (.inr ⟨w, r, rfl, he⟩))
      · refine .inr (.inr (.inl ⟨x, r, rfl, ?_, he⟩))
        rw [tys]
        cases x <;> first | rfl | exact absurd ⟨_, rfl⟩ hs
  · refine .inl ?_
    rw [tyt]
    cases d <;> first | rfl | exact absurd ⟨_, rfl⟩ hd
theorem eUnit {a : D} {b : Bool} (h : eEq a (.tup []) = some b) : eCo .eq a (.tup []) = some b := h
theorem tyS {w : Str} : isTy .str (.str w) = some true := rfl
theorem isPlainD_ty {t : Int} {d : D} (h : isTy .tuple d = some false) : isPlainD t d = false := isPlainD_no h
theorem is_step_ne {ts : List D} {p s d : D} {b : Bool} (h : okD k j d = true) (hj : j ≤ 60) (hi : isIf d = false) : callN gi.tab (n + 5) 21 [.tup [.tup ts, p, s], d, .bl b] M = ok (.bl (isPlainD ((ts.length : Int) - 1) d)) M := by
  refine call_ex (fd := f_is_step.fd) rfl rfl ⟨[some (.tup [.tup ts, p, s]), some d, some (.bl b)], ?_⟩
  show exs _ b_is_step [some (.tup [.tup ts, p, s]), some d, some (.bl b)] M = _
  have s0 : 0 ≤ sizeLine := line1 0 (by decide)
  rcases step_cases h hj with h1 | rfl | ⟨x, r, rfl, h1, h2⟩ | ⟨w, r, rfl, h2⟩
  · rw [isPlainD_no h1]
    simp [b_is_step, h1]
  · have h2 : eEq (.tup []) (.tup []) = some true := (eEq_unit (okD_cmp h hj)).trans rfl
    have : isPlainD ((ts.length : Int) - 1) (.tup []) = false := rfl
    rw [this]
    simp [b_is_step, tyT, eUnit h2, s0]
  · rw [isPlainD_first h1]
    simp [b_is_step, tyT, eUnit h2, s0, iq0, h1]
  · obtain ⟨j', rfl, hlen, hx⟩ := okD_tup h
    have hw : ¬ w = "if" := of_decide_eq_false hi
    have e6 : eCo .ne (.str w) k_IF = some true := by
      show (eEq _ _).map not = _
      rw [show eEq (.str w) k_IF = some false from (eEq_str (strOk_of (hx (.str w) (by simp))) (cmp_str (by decide +kernel))).trans (by rw [decide_eq_false hw])]; rfl
    have hp := is_plain_eq (n := n) (M := M) (ts := ts) (p := p) (s := s) h
    simp [b_is_step, tyT, eUnit h2, s0, iq0, tyS, e6, hp]
    rfl
theorem neIf : eCo .ne (.str "if") k_IF = some false := by
  show (eEq _ _).map not = _
  rw [show eEq (.str "if") k_IF = some true from (eEq_str (cmp_str (by decide +kernel)) (cmp_str (by decide +kernel))).trans (by decide +kernel)]; rfl
theorem is_step_0 {ts : List D} {p s d : D} (h : okD k j d = true) (hj : j ≤ 60) : callN gi.tab (n + 5) 21 [.tup [.tup ts, p, s], d, .bl false] M = ok (.bl (isPlainD ((ts.length : Int) - 1) d)) M := by
  cases hi : isIf d with
  | false => exact is_step_ne h hj hi
  | true =>
    obtain ⟨r, rfl⟩ := isIf_eq hi
    have h2 : eEq (.tup (.str "if" :: r)) (.tup []) = some false := (eEq_unit (okD_cmp h hj)).trans rfl
    have s0 : 0 ≤ sizeLine := line1 0 (by decide)
    rw [show isPlainD ((ts.length : Int) - 1) (.tup (.str "if" :: r)) = false from plain_if]
    refine call_ex (fd := f_is_step.fd) rfl rfl ⟨[some (.tup [.tup ts, p, s]), some (.tup (.str "if" :: r)), some (.bl false)], ?_⟩
    show exs _ b_is_step [some (.tup [.tup ts, p, s]), some (.tup (.str "if" :: r)), some (.bl false)] M = _
    simp [b_is_step, tyT, eUnit h2, s0, iq0, tyS, neIf, notD]
theorem is_body_eq {ts : List D} {p s d : D} (h : okD k j d = true) (hj : j ≤ 60) (hk : k ≤ 500) : callN gi.tab (n + 6) 20 [.tup [.tup ts, p, s], d] M = ok (.bl (isBody ((ts.length : Int) - 1) d)) M := by
  refine call_ex (fd := f_is_body.fd) rfl rfl ⟨[some (.tup [.tup ts, p, s]), some d, none], ?_⟩
  show exs _ b_is_body [some (.tup [.tup ts, p, s]), some d, none] M = _
  have tyt := ty_tup h
  by_cases hd : ∃ xs, d = .tup xs
  · obtain ⟨xs, rfl⟩ := hd
    obtain ⟨j', rfl, hlen, hx⟩ := okD_tup h
    have hv : isBody ((ts.length : Int) - 1) (.tup xs) = (decide ((xs.length : Int) ≤ 3) && xs.all (isPlainD ((ts.length : Int) - 1))) := rfl
    rw [hv]
    have hlc := ev_lc_of (cl := callN gi.tab (n + 5)) (env := [some (.tup [.tup ts, p, s]), some (.tup xs), none]) (M := M) (e := .call 21 (.cons (.var 0) (.cons (.var 2) (.cons (.con (.bl false)) .nil))) []) (i := 2) (it := .seq (.var 1)) (xs := xs) (fun x => .bl (isPlainD ((ts.length : Int) - 1) x))
        (by simp) (sz (by omega)) (by intro x hx'; have f := is_step_0 (n := n) (M := M) (ts := ts) (p := p) (s := s) (hx x hx') (by omega); simp [f])
    by_cases g : (xs.length : Int) ≤ 3
    · rw [decide_eq_true g]
      simp [b_is_body, tyT, g, hlc, bAll_map]
    · rw [decide_eq_false g]
      simp [b_is_body, tyT, g]
  · have ty : isTy .tuple d = some false := by
      rw [tyt]
      cases d <;> first | rfl | exact absurd ⟨_, rfl⟩ hd
    have : isBody ((ts.length : Int) - 1) d = false := by cases d <;> first | rfl | exact absurd ⟨_, rfl⟩ hd
    rw [this]
    simp [b_is_body, ty]
end
end KK
end Rf
end T_K01My
section T_K01Mz
set_option Elab.async false
set_option linter.all false
set_option maxRecDepth 100000
set_option maxHeartbeats 4000000
namespace Rf
namespace KK
open PySem L2
/-- a loop that gathers, or ends at a bad one -/
theorem forS_acc {tg : Tg} {b : Env → Mem → SRes} {M : Mem} {r : D} (p : D → Bool) (g : D → List D) (I : List D → Env → Prop) (T : Nat) : ∀ (xs acc : List D) (env : Env), I acc env → acc.length + (xs.flatMap g).length ≤ T →
    (∀ x ∈ xs, ∀ acc e, I acc e → acc.length + (g x).length ≤ T → ∃ e1 e2, asT tg x e = some e1 ∧ (p x = true → I (acc ++ g x) e2) ∧ b e1 M = if p x = true then some (.nx, e2, M) else some (.ret r, e2, M)) →
    (xs.all p = true → ∃ e, I (acc ++ xs.flatMap g) e ∧ forS tg b xs env M = some (.nx, e, M)) ∧ (xs.all p = false → ∃ e, forS tg b xs env M = some (.ret r, e, M))
  | [], acc, env, hI, _, _ => ⟨fun _ => ⟨env, by rw [List.flatMap_nil, List.append_nil]; exact hI, rfl⟩, fun h => by cases h⟩
  | x :: xs, acc, env, hI, hT, h => by
    rw [List.flatMap_cons, List.length_append] at hT
    obtain ⟨e1, e2, h1, h2, h3⟩ := h x (List.mem_cons_self ..) acc env hI (by omega)
    have hf : forS tg b (x :: xs) env M = match b e1 M with
      | some (.nx, e, M) => forS tg b xs e M
      | some (.cont, e, M) => forS tg b xs e M
      | some (.brk, e, M) => some (.nx, e, M)
      | r => r := by
      show (match asT tg x env with
        | none => none
        | some env => match b env M with
          | some (.nx, e, M) => forS tg b xs e M
          | some (.cont, e, M) => forS tg b xs e M
          | some (.brk, e, M) => some (.nx, e, M)
          | r => r) = _
      rw [h1]
    rw [hf, h3, List.all_cons]
    cases hp : p x with
    | false =>
      rw [if_neg Bool.false_ne_true]
      exact ⟨fun h => (by cases h), fun _ => ⟨_, rfl⟩⟩
    | true =>
      rw [if_pos rfl, Bool.true_and]
      have ih := forS_acc p g I T xs (acc ++ g x) e2 (h2 hp) (by rw [List.length_append]; omega) fun y hy => h y (List.mem_cons_of_mem _ hy)
      rw [List.flatMap_cons, ← List.append_assoc]
      exact ih
def firstS : D → Str
  | .tup (.str w :: _) => w
  | _ => ""
def wordsS : D → List Str
  | .tup (.str w :: r) => if w = "if" then match r with
      | [a, b, c, .tup xs, .tup ys] => "if" :: (xs.map firstS ++ ys.map firstS)
      | _ => []
    else [w]
  | _ => []
def stepsD : D → List D
  | .tup (.str w :: r) => if w = "if" then match r with
      | [a, b, c, .tup xs, .tup ys] => .tup (.str w :: r) :: (xs ++ ys)
      | _ => []
    else [.tup (.str w :: r)]
  | _ => []
section
variable {k j n : Nat} {M : Mem}
theorem isBody_eq {t : Int} {d : D} (h : isBody t d = true) : ∃ xs, d = .tup xs ∧ xs.length ≤ 3 ∧ xs.all (isPlainD t) = true := by
  cases d <;> first | (cases h; done) | skip
  rename_i xs
  have h : (decide ((xs.length : Int) ≤ 3) && xs.all (isPlainD t)) = true := h
  rw [Bool.and_eq_true] at h
  have := of_decide_eq_true h.1
  exact ⟨xs, rfl, by omega, h.2⟩
theorem isPlainD_eq {t : Int} {d : D} (h : isPlainD t d = true) : ∃ w r, d = .tup (.str w :: r) ∧ ¬ w = "if" := by
  unfold isPlainD at h
  split at h
  · rename_i w r
    refine ⟨w, r, rfl, ?_⟩
    intro hw
    subst hw
    rw [plain_if] at h
    cases h
  · cases h
theorem isBr_eq {t : Int} {r : List D} (h : isBr t r = true) : ∃ a b c xs ys, r = [a, b, c, .tup xs, .tup ys] ∧ xs.length ≤ 3 ∧ ys.length ≤ 3 ∧ xs.all (isPlainD t) = true ∧ ys.all (isPlainD t) = true := by
  unfold isBr at h
  split at h
  · rename_i a b c x y
    rw [Bool.and_eq_true, Bool.and_eq_true, Bool.and_eq_true, Bool.and_eq_true] at h
    obtain ⟨xs, rfl, h1, h2⟩ := isBody_eq h.2.2.1
    obtain ⟨ys, rfl, h3, h4⟩ := isBody_eq h.2.2.2
    exact ⟨a, b, c, xs, ys, rfl, h1, h3, h2, h4⟩
  · cases h
theorem isStep_eq {t : Int} {d : D} (h : isStep t d = true) : (∃ w r, d = .tup (.str w :: r) ∧ ¬ w = "if" ∧ isPlainD t d = true) ∨ (∃ a b c xs ys, d = .tup [.str "if", a, b, c, .tup xs, .tup ys] ∧ xs.length ≤ 3 ∧ ys.length ≤ 3 ∧ xs.all (isPlainD t) = true ∧ ys.all (isPlainD t) = true) := by
  cases hi : isIf d with
  | false =>
    rw [isStep_ne hi] at h
    obtain ⟨w, r, rfl, hw⟩ := isPlainD_eq h
    exact .inl ⟨w, r, rfl, hw, h⟩
  | true =>
    obtain ⟨r, rfl⟩ := isIf_eq hi
    rw [isStep_if] at h
    obtain ⟨a, b, c, xs, ys, rfl, h1, h2, h3, h4⟩ := isBr_eq h
    exact .inr ⟨a, b, c, xs, ys, rfl, h1, h2, h3, h4⟩
theorem words_ne {w : Str} {r : List D} (h : ¬ w = "if") : wordsS (.tup (.str w :: r)) = [w] := by
  unfold wordsS
  exact if_neg h
theorem steps_ne {w : Str} {r : List D} (h : ¬ w = "if") : stepsD (.tup (.str w :: r)) = [.tup (.str w :: r)] := by
  unfold stepsD
  exact if_neg h
theorem words_if {a b c : D} {xs ys : List D} : wordsS (.tup [.str "if", a, b, c, .tup xs, .tup ys]) = ("if" : Str) :: (xs.map firstS ++ ys.map firstS) := by
  unfold wordsS
  exact if_pos rfl
theorem steps_if {a b c : D} {xs ys : List D} : stepsD (.tup [.str "if", a, b, c, .tup xs, .tup ys]) = .tup [.str "if", a, b, c, .tup xs, .tup ys] :: (xs ++ ys) := by
  unfold stepsD
  exact if_pos rfl
theorem words_len {t : Int} {d : D} (h : isStep t d = true) : (wordsS d).length ≤ 7 ∧ (stepsD d).length ≤ 7 := by
  rcases isStep_eq h with ⟨w, r, rfl, hw, _⟩ | ⟨a, b, c, xs, ys, rfl, h1, h2, _⟩
  · rw [words_ne hw, steps_ne hw]; simp
  · rw [words_if, steps_if]; simp; omega
theorem is_step_1 {ts : List D} {p s d : D} (h : okD k j d = true) (hj : j ≤ 60) (hk : k ≤ 500) : callN gi.tab (n + 7) 21 [.tup [.tup ts, p, s], d, .bl true] M = ok (.bl (isStep ((ts.length : Int) - 1) d)) M := by
  cases hi : isIf d with
  | false => rw [isStep_ne hi]; exact is_step_ne h hj hi
  | true =>
    obtain ⟨r, rfl⟩ := isIf_eq hi
    have h2 : eEq (.tup (.str "if" :: r)) (.tup []) = some false := (eEq_unit (okD_cmp h hj)).trans rfl
    have s0 : 0 ≤ sizeLine := line1 0 (by decide)
    rw [isStep_if]
    obtain ⟨j', rfl, hlen, hx⟩ := okD_tup h
    refine call_ex (fd := f_is_step.fd) rfl rfl ⟨[some (.tup [.tup ts, p, s]), some (.tup (.str "if" :: r)), some (.bl true)], ?_⟩
    show exs _ b_is_step [some (.tup [.tup ts, p, s]), some (.tup (.str "if" :: r)), some (.bl true)] M = _
    by_cases hl : r.length = 5
    · obtain ⟨a, b, c, x, y, rfl⟩ : ∃ a b c x y, r = [a, b, c, x, y] := by
        rcases r with _ | ⟨a, _ | ⟨b, _ | ⟨c, _ | ⟨d, _ | ⟨e, _ | ⟨f, r⟩⟩⟩⟩⟩⟩ <;> first | (simp at hl; done) | exact ⟨_, _, _, _, _, rfl⟩ | (simp at hl; omega)
      have f1 := is_name_eq (n := n + 4) (M := M) (hx a (by simp))
      have f2 := is_name_eq (n := n + 4) (M := M) (hx b (by simp))
      have f3 := is_seen_eq (n := n + 5) (M := M) (hx c (by simp))
      have f4 := is_body_eq (n := n) (M := M) (ts := ts) (p := p) (s := s) (hx x (by simp)) (by omega) hk
      have f5 := is_body_eq (n := n) (M := M) (ts := ts) (p := p) (s := s) (hx y (by simp)) (by omega) hk
      unfold isBr
      cases g1 : isName a <;> rw [g1] at f1
      · simp [b_is_step, tyT, eUnit h2, s0, iq0, iq1, iq2, iq3, iq4, iq5, tyS, neIf, notD, f1, g1]
      cases g2 : isName b <;> rw [g2] at f2
      · simp [b_is_step, tyT, eUnit h2, s0, iq0, iq1, iq2, iq3, iq4, iq5, tyS, neIf, notD, f1, f2, g1, g2]
      cases g3 : isSeen c <;> rw [g3] at f3
      · simp [b_is_step, tyT, eUnit h2, s0, iq0, iq1, iq2, iq3, iq4, iq5, tyS, neIf, notD, f1, f2, f3, g1, g2, g3]
      cases g4 : isBody ((ts.length : Int) - 1) x <;> rw [g4] at f4 <;> simp [b_is_step, tyT, eUnit h2, s0, iq0, iq1, iq2, iq3, iq4, iq5, tyS, neIf, notD, f1, f2, f3, f4, f5, g1, g2, g3, g4]
    · have : isBr ((ts.length : Int) - 1) r = false := by
        rcases r with _ | ⟨a, _ | ⟨b, _ | ⟨c, _ | ⟨d, _ | ⟨e, _ | ⟨f, r⟩⟩⟩⟩⟩⟩ <;> first | rfl | (exact absurd rfl hl)
      rw [this]
      have hl' : ¬ (r.length : Int) + 1 = 6 := by omega
      simp [b_is_step, tyT, eUnit h2, s0, iq0, tyS, neIf, notD, hl']
end
end KK
end Rf
end T_K01Mz
section T_K01Na
set_option Elab.async false
set_option linter.all false
set_option maxRecDepth 100000
set_option maxHeartbeats 4000000
namespace Rf
namespace KK
open PySem L2
section
variable {k j n : Nat} {M : Mem}
theorem slc13 {x a b : D} {r : List D} : eSlc (.tup (x :: a :: b :: r)) (some 1) (some 3) = some (.tup [a, b]) := by
  show some (D.tup (cutD (x :: a :: b :: r) (some 1) (some 3))) = _
  congr 2
theorem slc4 {x a b c : D} {r : List D} : eSlc (.tup (x :: a :: b :: c :: r)) (some 4) none = some (.tup r) := by
  show some (D.tup (cutD (x :: a :: b :: c :: r) (some 4) none)) = _
  congr 2
  unfold cutD
  have h1 : HT.sIx (x :: a :: b :: c :: r).length 0 (some 4) = 4 := by
    unfold HT.sIx
    simp
  have h2 : HT.sIx (x :: a :: b :: c :: r).length (x :: a :: b :: c :: r).length none = r.length + 4 := rfl
  rw [h1, h2]
  simp
theorem addT {xs ys : List D} (h : xs.length + ys.length ≤ 1000) : eOp M .add (.tup xs) (.tup ys) = some (.tup (xs ++ ys)) := if_pos (Nat.le_trans h (line1 1000 (by decide)))
def cntD (t : Int) (d : D) : D := if isStep t d = true then .lst ((wordsS d).map .str) else .non
def brBody : List CS := [.ite (.or (.not (.isi (.var 2) .tuple)) (.cmp .gt (.bi .len (.cons (.var 2) .nil)) (.con (.int (3)))))
    [.ret (.con (.non))]
    [],
    .ite (.cmp .ne (.lcIf (.var 3) (.nm 3) (.seq (.var 2)) (.not (.call 49 (.cons (.var 0) (.cons (.var 3) .nil)) []))) (.lst .nil))
    [.ret (.con (.non))]
    []]
theorem brBody_eq {ts : List D} {p s d : D} {u w : Option D} (h : okD k j d = true) (hj : j ≤ 60) (hk : k ≤ 500) : exs (callN gi.tab (n + 2)) brBody [some (.tup [.tup ts, p, s]), u, some d, w] M = if isBody ((ts.length : Int) - 1) d = true then some (.nx, [some (.tup [.tup ts, p, s]), u, some d, w], M) else some (.ret .non, [some (.tup [.tup ts, p, s]), u, some d, w], M) := by
  have tyt := ty_tup h
  have s0 : 0 ≤ sizeLine := line1 0 (by decide)
  by_cases hd : ∃ xs, d = .tup xs
  · obtain ⟨xs, rfl⟩ := hd
    obtain ⟨j', rfl, hlen, hx⟩ := okD_tup h
    have hv : isBody ((ts.length : Int) - 1) (.tup xs) = (decide ((xs.length : Int) ≤ 3) && xs.all (isPlainD ((ts.length : Int) - 1))) := rfl
    rw [hv]
    have hlc := ev_lcIf_of (cl := callN gi.tab (n + 2)) (env := [some (.tup [.tup ts, p, s]), u, some (.tup xs), w]) (M := M) (e := .var 3) (i := 3) (it := .seq (.var 2))
      (c := .not (.call 49 (.cons (.var 0) (.cons (.var 3) .nil)) [])) (xs := xs) (fun z => !isPlainD ((ts.length : Int) - 1) z) (by simp) (sz (by omega))
      (by
        intro z hz
        have f := law_is_plain_eq (n := n) (M := M) (ts := ts) (p := p) (s := s) (hx z hz) hk
        simp [f])
      (by intro z hz _; simp)
    have hq : eCo .ne (.lst (xs.filter fun z => !isPlainD ((ts.length : Int) - 1) z)) (.lst []) = some (!(xs.filter fun z => !isPlainD ((ts.length : Int) - 1) z).isEmpty) := by
      show (eEq _ _).map not = _
      rw [eEq_nil]
      · rfl
      · refine okD_cmp (k := k) (n := j' + 1) (okD_lstI ?_ fun z hz => hx z (List.mem_filter.mp hz).1) hj
        have := List.length_filter_le (fun z => !isPlainD ((ts.length : Int) - 1) z) xs
        omega
    have hem : (xs.filter fun z => !isPlainD ((ts.length : Int) - 1) z).isEmpty = xs.all (isPlainD ((ts.length : Int) - 1)) := by
      induction xs with
      | nil => rfl
      | cons x r ih =>
        rw [List.filter_cons, List.all_cons]
        cases g : isPlainD ((ts.length : Int) - 1) x with
        | false => rfl
        | true =>
          simp only [Bool.not_true, Bool.false_eq_true, if_false, Bool.true_and]
          clear ih hlc hq hv hx hlen tyt h
          induction r with
          | nil => rfl
          | cons y r ih =>
            rw [List.filter_cons, List.all_cons]
            cases g : isPlainD ((ts.length : Int) - 1) y with
            | false => rfl
            | true => simpa using ih
    rw [hem] at hq
    by_cases g : (xs.length : Int) ≤ 3
    · have g' : ¬ 3 < (xs.length : Int) := by omega
      rw [decide_eq_true g]
      cases g2 : xs.all (isPlainD ((ts.length : Int) - 1)) <;> rw [g2] at hq <;> simp [brBody, tyT, g', hlc, hq, s0]
    · have g' : 3 < (xs.length : Int) := by omega
      rw [decide_eq_false g]
      simp [brBody, tyT, g']
  · have ty : isTy .tuple d = some false := by
      rw [tyt]
      cases d <;> first | rfl | exact absurd ⟨_, rfl⟩ hd
    have : isBody ((ts.length : Int) - 1) d = false := by cases d <;> first | rfl | exact absurd ⟨_, rfl⟩ hd
    rw [this]
    simp [brBody, ty]
theorem plain_hold {t : Int} {a b : D} : isPlainD t (.tup [.str "hold", a, b]) = (isName a && isName b) := by
  have := fit_hold (t := t) (r := [a, b]) rfl
  rw [shapeOf_hold] at this
  show isPlain t [.str "hold", a, b] = _
  rw [this]
  show ((fits a sE && (fits b sE && true)) && true) = _
  rw [fits_sE, fits_sE, Bool.and_true, Bool.and_true]
theorem nin_seen {s : Str} (h : okD k j (.str s) = true) : eCo .nin (.str s) (.lst [.str "longer", .str "same", .str "shorter"]) = some (!isSeen (.str s)) := by
  have hc := strOk_of h
  show (eIn (.str s) (.lst [.str "longer", .str "same", .str "shorter"])).map not = _
  have : eIn (.str s) (.lst [.str "longer", .str "same", .str "shorter"]) = some (isSeen (.str s)) := by
    show (match toPy (.str s), toPys [D.str "longer", .str "same", .str "shorter"] with
      | some x, some ys => if SeqAt.shaped x && SeqAt.shaped (.list ys) then some (ys.any fun z => PyData.eqv z x) else none
      | _, _ => none) = _
    show (if (SeqAt.shaped (PyData.str s) && SeqAt.shaped (.list [.str "longer", .str "same", .str "shorter"])) = true then _ else none) = _
    rw [if_pos (by
      rw [show SeqAt.shaped (PyData.str s) = true from hc.sh]
      decide +kernel)]
    rfl
  rw [this]; rfl
end
end KK
end Rf
end T_K01Na
section T_K01Nb
set_option Elab.async false
set_option linter.all false
set_option maxRecDepth 100000
set_option maxHeartbeats 4000000
namespace Rf
namespace KK
open PySem L2
section
variable {k j n : Nat} {M : Mem}
def firstD : D → D
  | .tup (x :: _) => x
  | _ => .non
theorem cnt_ne {t : Int} {d : D} (h : isIf d = false) : cntD t d = if isPlainD t d = true then .lst [firstD d] else .non := by
  unfold cntD
  rw [isStep_ne h]
  cases g : isPlainD t d with
  | false => rfl
  | true =>
    obtain ⟨w, r, rfl, hw⟩ := isPlainD_eq g
    rw [words_ne hw]
    rfl
theorem firsts_of {t : Int} : ∀ {xs : List D}, xs.all (isPlainD t) = true → (xs.map firstS).map D.str = xs.map firstD
  | [], _ => rfl
  | x :: xs, h => by
    rw [List.all_cons, Bool.and_eq_true] at h
    obtain ⟨w, r, rfl, hw⟩ := isPlainD_eq h.1
    rw [List.map_cons, List.map_cons, List.map_cons, firsts_of h.2]
    rfl
theorem firsts_ev {t : Int} {cl : Calls} {env : Env} {i : Nat} {xs : List D} {it : CI} (h : xs.all (isPlainD t) = true) (hl : xs.length ≤ 1000) (hi : i < env.length) (hit : evI cl it env M = ok xs M) :
    ev cl (.lc (.idx (.var i) (.con (.int (0)))) (.nm i) it) env M = ok (.lst (xs.map firstD)) M := by
  refine ev_lc_of firstD hit (sz hl) ?_
  intro x hx
  obtain ⟨w, r, rfl, hw⟩ := isPlainD_eq (List.all_eq_true.mp h x hx)
  have : getV (env.set i (some (D.tup (.str w :: r)))) i M = ok (.tup (.str w :: r)) M := by
    unfold getV
    rw [List.getElem?_set_self hi]
  simp only [ev_idx, ev_var, this, ev_con, s_bind_ok, iq0, s_lift]
  rfl
theorem law_count_ne {ts : List D} {p s d : D} (h : okD k j d = true) (hj : j ≤ 60) (hk : k ≤ 500) (hi : isIf d = false) : callN gi.tab (n + 3) 50 [.tup [.tup ts, p, s], d] M = ok (cntD ((ts.length : Int) - 1) d) M := by
  have f := law_is_plain_eq (n := n) (M := M) (ts := ts) (p := p) (s := s) h hk
  rw [cnt_ne hi]
  refine call_ex (fd := f__law_count.fd) rfl rfl ⟨[some (.tup [.tup ts, p, s]), some d, none, none], ?_⟩
  show exs _ b__law_count [some (.tup [.tup ts, p, s]), some d, none, none] M = _
  have s0 : 0 ≤ sizeLine := line1 0 (by decide)
  have s1 : 1 ≤ sizeLine := line1 1 (by decide)
  rcases step_cases h hj with h1 | rfl | ⟨x, r, rfl, h1, h2⟩ | ⟨w, r, rfl, h2⟩
  · rw [isPlainD_no h1] at f ⊢
    simp [b__law_count, h1, f]
  · have h2 : eEq (.tup []) (.tup []) = some true := (eEq_unit (okD_cmp h hj)).trans rfl
    have hp : isPlainD ((ts.length : Int) - 1) (.tup []) = false := rfl
    rw [hp] at f ⊢
    simp [b__law_count, tyT, eUnit h2, s0, f]
  · rw [isPlainD_first h1] at f ⊢
    simp [b__law_count, tyT, eUnit h2, s0, iq0, h1, f]
  · obtain ⟨j', rfl, hlen, hx⟩ := okD_tup h
    have hw : ¬ w = "if" := of_decide_eq_false hi
    have e6 : eCo .ne (.str w) (.str "if") = some true := by
      show (eEq _ _).map not = _
      rw [show eEq (.str w) (.str "if") = some false from (eEq_str (strOk_of (hx (.str w) (by simp))) (cmp_str (by decide +kernel))).trans (by rw [decide_eq_false hw])]; rfl
    cases g : isPlainD ((ts.length : Int) - 1) (.tup (.str w :: r)) <;> rw [g] at f <;> simp [b__law_count, tyT, eUnit h2, s0, s1, iq0, tyS, e6, f, firstD]
theorem law_count_eq {ts : List D} {p s d : D} (h : okD k j d = true) (hj : j ≤ 60) (hk : k ≤ 500) : callN gi.tab (n + 3) 50 [.tup [.tup ts, p, s], d] M = ok (cntD ((ts.length : Int) - 1) d) M := by
  cases hi : isIf d with
  | false => exact law_count_ne h hj hk hi
  | true =>
    obtain ⟨r, rfl⟩ := isIf_eq hi
    have h2 : eEq (.tup (.str "if" :: r)) (.tup []) = some false := (eEq_unit (okD_cmp h hj)).trans rfl
    have hne : eCo .ne (.str "if") (.str "if") = some false := neIf
    have s0 : 0 ≤ sizeLine := line1 0 (by decide)
    have s1 : 1 ≤ sizeLine := line1 1 (by decide)
    have s3 : 3 ≤ sizeLine := line1 3 (by decide)
    unfold cntD
    rw [isStep_if]
    obtain ⟨j', rfl, hlen, hx⟩ := okD_tup h
    refine call_ex (fd := f__law_count.fd) rfl rfl ?_
    show ∃ e, exs _ b__law_count [some (.tup [.tup ts, p, s]), some (.tup (.str "if" :: r)), none, none] M = _
    by_cases hl : r.length = 5
    · obtain ⟨a, b, c, x, y, rfl⟩ : ∃ a b c x y, r = [a, b, c, x, y] := by
        rcases r with _ | ⟨a, _ | ⟨b, _ | ⟨c, _ | ⟨d, _ | ⟨e, _ | ⟨f, r⟩⟩⟩⟩⟩⟩ <;> first | (simp at hl; done) | exact ⟨_, _, _, _, _, rfl⟩ | (simp at hl; omega)
      have hold : okD k (j' + 1) (.tup [.str "hold", a, b]) = true := okD_tupI (by simp; omega) (by
        intro z hz
        simp only [List.mem_cons, List.not_mem_nil, or_false] at hz
        rcases hz with rfl | rfl | rfl
        · have : okD 0 0 (.str "hold") = true := by decide +kernel
          exact okD_mono (Nat.zero_le _) (Nat.zero_le _) this
        · exact hx _ (by simp)
        · exact hx _ (by simp))
      have f1 := law_is_plain_eq (n := n) (M := M) (ts := ts) (p := p) (s := s) hold hk
      rw [plain_hold] at f1
      have f1' : eOp M .add (.tup [.str "hold"]) (.tup [a, b]) = some (.tup [.str "hold", a, b]) := addT (by simp)
      have hsl : eSlc (.tup [.str "if", a, b, c, x, y]) (some 1) (some 3) = some (.tup [a, b]) := slc13
      have hsl4 : eSlc (.tup [.str "if", a, b, c, x, y]) (some 4) none = some (.tup [x, y]) := slc4
      have hs := forS_inv (tg := .nm 2) (b := exs (callN gi.tab (n + 2)) brBody) (M := M) (r := .non) (isBody ((ts.length : Int) - 1))
        (fun e => ∃ u v, e = [some (.tup [.tup ts, p, s]), some (.tup [.str "if", a, b, c, x, y]), u, v]) [x, y] [some (.tup [.tup ts, p, s]), some (.tup [.str "if", a, b, c, x, y]), none, none] ⟨_, _, rfl⟩ (by
          intro z hz e he
          obtain ⟨u, v, rfl⟩ := he
          refine ⟨_, [some (.tup [.tup ts, p, s]), some (.tup [.str "if", a, b, c, x, y]), some z, v], rfl, ⟨_, _, rfl⟩, ?_⟩
          exact brBody_eq (hx z (by simp at hz; rcases hz with rfl | rfl <;> simp)) (by omega) hk)
      unfold brBody at hs
      unfold isBr
      by_cases g1 : (isName a && isName b) = true
      · rw [g1] at f1
        have hxc := hx c (by simp)
        by_cases hcs : ∃ q, c = .str q
        · obtain ⟨q, rfl⟩ := hcs
          have hn := nin_seen hxc
          cases g3 : isSeen (.str q) with
          | false =>
            rw [g3] at hn
            refine ⟨[some (.tup [.tup ts, p, s]), some (.tup [.str "if", a, b, .str q, x, y]), none, none], ?_⟩
            simp [b__law_count, tyT, eUnit h2, s0, s1, s3, iq0, iq3, tyS, hne, hsl, f1, f1', hn, g3]
          | true =>
            rw [g3] at hn
            cases g4 : [x, y].all (isBody ((ts.length : Int) - 1)) with
            | false =>
              obtain ⟨e, he⟩ := hs.2 g4
              refine ⟨e, ?_⟩
              have g4' : (isBody ((ts.length : Int) - 1) x && isBody ((ts.length : Int) - 1) y) = false := by simpa using g4
              simp only [g4', Bool.and_false, Bool.false_eq_true, if_false]
              simp [b__law_count, tyT, eUnit h2, s0, s1, s3, iq0, iq3, tyS, hne, hsl, hsl4, f1, f1', hn, he]
            | true =>
              obtain ⟨e, ⟨u, v, rfl⟩, he⟩ := hs.1 g4
              refine ⟨[some (.tup [.tup ts, p, s]), some (.tup [.str "if", a, b, .str q, x, y]), u, v], ?_⟩
              have g4' : (isBody ((ts.length : Int) - 1) x && isBody ((ts.length : Int) - 1) y) = true := by simpa using g4
              simp only [g4', g1, g3, Bool.and_self, if_true]
              rw [Bool.and_eq_true] at g4'
              obtain ⟨xs, rfl, hxl, hxa⟩ := isBody_eq g4'.1
              obtain ⟨ys, rfl, hyl, hya⟩ := isBody_eq g4'.2
              rw [words_if, List.map_cons, List.map_append, firsts_of hxa, firsts_of hya]
              have lx := firsts_ev (M := M) (cl := callN gi.tab (n + 2)) (i := 3) (env := [some (.tup [.tup ts, p, s]), some (.tup [.str "if", a, b, .str q, .tup xs, .tup ys]), u, v]) (it := .seq (.idx (.var 1) (.con (.int (4))))) hxa (by omega) (by simp) (by simp [iq4])
              have ly := firsts_ev (M := M) (cl := callN gi.tab (n + 2)) (i := 3) (env := [some (.tup [.tup ts, p, s]), some (.tup [.str "if", a, b, .str q, .tup xs, .tup ys]), u, v]) (it := .seq (.idx (.var 1) (.con (.int (5))))) hya (by omega) (by simp) (by simp [iq5])
              have a1 : eOp M .add (.lst [.str "if"]) (.lst (xs.map firstD)) = some (.lst (.str "if" :: xs.map firstD)) := addL (by simp; omega)
              have a2 : eOp M .add (.lst (.str "if" :: xs.map firstD)) (.lst (ys.map firstD)) = some (.lst (.str "if" :: (xs.map firstD ++ ys.map firstD))) := addL (by simp; omega)
              simp [b__law_count, tyT, eUnit h2, s0, s1, s3, iq0, iq3, tyS, hne, hsl, hsl4, f1, f1', hn, he, lx, ly, a1, a2]
        · have tys : isTy .str c = some false := by
            rw [ty_str hxc]
            cases c <;> first | rfl | exact absurd ⟨_, rfl⟩ hcs
          have g3 : isSeen c = false := by cases c <;> first | rfl | exact absurd ⟨_, rfl⟩ hcs
          refine ⟨[some (.tup [.tup ts, p, s]), some (.tup [.str "if", a, b, c, x, y]), none, none], ?_⟩
          simp [b__law_count, tyT, eUnit h2, s0, s1, s3, iq0, iq3, tyS, hne, hsl, f1, f1', tys, g3]
      · have g1' : (isName a && isName b) = false := by simpa using g1
        rw [g1'] at f1
        refine ⟨[some (.tup [.tup ts, p, s]), some (.tup [.str "if", a, b, c, x, y]), none, none], ?_⟩
        simp only [g1', Bool.false_and, Bool.false_eq_true, if_false]
        simp [b__law_count, tyT, eUnit h2, s0, s1, s3, iq0, tyS, hne, hsl, f1, f1']
    · have : isBr ((ts.length : Int) - 1) r = false := by
        rcases r with _ | ⟨a, _ | ⟨b, _ | ⟨c, _ | ⟨d, _ | ⟨e, _ | ⟨f, r⟩⟩⟩⟩⟩⟩ <;> first | rfl | (exact absurd rfl hl)
      rw [this]
      have hl' : ¬ (r.length : Int) + 1 = 6 := by omega
      refine ⟨[some (.tup [.tup ts, p, s]), some (.tup (.str "if" :: r)), none, none], ?_⟩
      simp [b__law_count, tyT, eUnit h2, s0, s1, iq0, tyS, hne, hl']
end
end KK
end Rf
end T_K01Nb
section T_K01Nc
set_option Elab.async false
set_option linter.all false
set_option maxRecDepth 100000
set_option maxHeartbeats 4000000
namespace Rf
namespace KK
open PySem L2
section
variable {k j n : Nat} {M : Mem}
def wordsL (xs : List D) : List Str := xs.flatMap wordsS
def isScr (t : Int) : D → Bool
  | .tup xs => decide ((xs.length : Int) ≤ 6) && (xs.all (isStep t) && (decide (((wordsL xs).length : Int) ≤ 10) && decide ((((wordsL xs).filter fun y => decide (y = ("read" : Str))).length : Int) ≤ 2)))
  | _ => false
theorem strsOf_map : ∀ l : List Str, strsOf (l.map .str) = some l
  | [] => rfl
  | x :: l => by
    show (strsOf (l.map .str)).map _ = _
    rw [strsOf_map l]; rfl
theorem count_read {l : List Str} : eBi M .count [.lst (l.map .str), .str "read"] = some (.int ((l.filter fun y => decide (y = ("read" : Str))).length : Nat)) := by
  show bCount [.lst (l.map .str), .str "read"] = _
  unfold bCount
  simp only [strsOf_map]
theorem len_flat {t : Int} : ∀ {xs : List D}, xs.all (isStep t) = true → (xs.flatMap stepsD).length ≤ 7 * xs.length ∧ (wordsL xs).length ≤ 7 * xs.length
  | [], _ => ⟨Nat.le_refl _, Nat.le_refl _⟩
  | x :: xs, h => by
    rw [List.all_cons, Bool.and_eq_true] at h
    have h1 := words_len h.1
    have h2 := len_flat h.2
    unfold wordsL at h2 ⊢
    rw [List.flatMap_cons, List.flatMap_cons, List.length_append, List.length_append, List.length_cons]
    omega
theorem steps_words {t : Int} {d : D} (h : isStep t d = true) : (stepsD d).map firstD = (wordsS d).map .str ∧ ∀ e ∈ stepsD d, ∃ w r, e = .tup (.str w :: r) := by
  rcases isStep_eq h with ⟨w, r, rfl, hw, _⟩ | ⟨a, b, c, xs, ys, rfl, h1, h2, h3, h4⟩
  · rw [words_ne hw, steps_ne hw]
    refine ⟨rfl, ?_⟩
    intro e he
    simp only [List.mem_cons, List.not_mem_nil, or_false] at he
    exact ⟨w, r, he⟩
  · rw [words_if, steps_if]
    constructor
    · rw [List.map_cons, List.map_cons, List.map_append, List.map_append, firsts_of h3, firsts_of h4]
      rfl
    · intro e he
      rcases List.mem_cons.mp he with rfl | he
      · exact ⟨_, _, rfl⟩
      · rcases List.mem_append.mp he with he | he
        · obtain ⟨w, r, e, _⟩ := isPlainD_eq (List.all_eq_true.mp h3 e he)
          exact ⟨w, r, e⟩
        · obtain ⟨w, r, e, _⟩ := isPlainD_eq (List.all_eq_true.mp h4 e he)
          exact ⟨w, r, e⟩
theorem flat_words {t : Int} : ∀ {xs : List D}, xs.all (isStep t) = true → (xs.flatMap stepsD).map firstD = (wordsL xs).map .str ∧ ∀ e ∈ xs.flatMap stepsD, ∃ w r, e = .tup (.str w :: r)
  | [], _ => ⟨rfl, by intro e he; cases he⟩
  | x :: xs, h => by
    rw [List.all_cons, Bool.and_eq_true] at h
    have h1 := steps_words h.1
    have h2 := flat_words h.2
    unfold wordsL at h2 ⊢
    rw [List.flatMap_cons, List.flatMap_cons, List.map_append, List.map_append, h1.1, h2.1]
    refine ⟨rfl, ?_⟩
    intro e he
    rcases List.mem_append.mp he with he | he
    · exact h1.2 e he
    · exact h2.2 e he
def allBody : List CS := [.asg (.nm 1) (.bin .add (.var 1) (.lst (.cons (.var 2) .nil))),
    .ite (.cmp .eq (.idx (.var 2) (.con (.int (0)))) (.con k_IF))
    [.asg (.nm 1) (.bin .add (.bin .add (.var 1) (.bi .list (.cons (.idx (.var 2) (.con (.int (4)))) .nil))) (.bi .list (.cons (.idx (.var 2) (.con (.int (5)))) .nil)))]
    []]
theorem bListT {xs : List D} : eBi M .list [.tup xs] = some (.lst xs) := rfl
theorem all_steps_eq {t : Int} {xs : List D} (h : xs.all (isStep t) = true) (hx : ∀ x ∈ xs, okD k j x = true) (hl : xs.length ≤ 6) : callN gi.tab (n + 1) 22 [.tup xs] M = ok (.lst (xs.flatMap stepsD)) M := by
  refine call_ex (fd := f_all_steps.fd) rfl rfl ?_
  show ∃ e, exs _ b_all_steps [some (.tup xs), none, none] M = _
  have s0 : 0 ≤ sizeLine := line1 0 (by decide)
  have s1 : 1 ≤ sizeLine := line1 1 (by decide)
  have hs := (forS_acc (tg := .nm 2) (b := exs (callN gi.tab n) allBody) (M := M) (r := .non) (fun _ => true) stepsD
    (fun acc e => ∃ u, e = [some (.tup xs), some (.lst acc), u]) 900 xs [] [some (.tup xs), some (.lst []), none] ⟨_, rfl⟩ (by
      have := (len_flat h).1
      simp only [List.length_nil]
      omega) (by
      intro x hxm acc e he hlen
      obtain ⟨u, rfl⟩ := he
      refine ⟨_, [some (.tup xs), some (.lst (acc ++ stepsD x)), some x], rfl, fun _ => ⟨_, rfl⟩, ?_⟩
      rw [if_pos rfl]
      have hst := List.all_eq_true.mp h x hxm
      have hxo := hx x hxm
      show exs _ allBody [some (.tup xs), some (.lst acc), some x] M = _
      rcases isStep_eq hst with ⟨w, r, rfl, hw, _⟩ | ⟨a, b, c, ys, zs, rfl, h1, h2, h3, h4⟩
      · rw [steps_ne hw] at hlen ⊢
        obtain ⟨j', rfl, _, hx'⟩ := okD_tup hxo
        have e6 : eCo .eq (.str w) k_IF = some false := (eEq_str (strOk_of (hx' (.str w) (by simp))) (cmp_str (by decide +kernel))).trans (by rw [decide_eq_false hw])
        have a1 : eOp M .add (.lst acc) (.lst [.tup (.str w :: r)]) = some (.lst (acc ++ [.tup (.str w :: r)])) := addL (by simp at hlen ⊢; omega)
        simp [allBody, s1, a1, iq0, e6]
      · rw [steps_if] at hlen ⊢
        have e6 : eCo .eq (.str "if") k_IF = some true := (cEqS (by decide +kernel) (by decide +kernel)).trans (by decide +kernel)
        have a1 : eOp M .add (.lst acc) (.lst [.tup [.str "if", a, b, c, .tup ys, .tup zs]]) = some (.lst (acc ++ [.tup [.str "if", a, b, c, .tup ys, .tup zs]])) := addL (by simp at hlen ⊢; omega)
        have a2 : eOp M .add (.lst (acc ++ [.tup [.str "if", a, b, c, .tup ys, .tup zs]])) (.lst ys) = some (.lst (acc ++ [.tup [.str "if", a, b, c, .tup ys, .tup zs]] ++ ys)) := addL (by simp at hlen ⊢; omega)
        have a3 : eOp M .add (.lst (acc ++ [.tup [.str "if", a, b, c, .tup ys, .tup zs]] ++ ys)) (.lst zs) = some (.lst (acc ++ [.tup [.str "if", a, b, c, .tup ys, .tup zs]] ++ ys ++ zs)) := addL (by simp at hlen ⊢; omega)
        have a4 : acc ++ D.tup [.str "if", a, b, c, .tup ys, .tup zs] :: (ys ++ zs) = acc ++ [D.tup [.str "if", a, b, c, .tup ys, .tup zs]] ++ ys ++ zs := by simp
        rw [a4]
        simp only [allBody, exs_cons, ex_asg, ev_bin, ev_var, s_get0, s_getS, s_bind_ok, ev_lst, evs_cons, evs_nil, List.length_cons, List.length_nil, Nat.zero_add, if_pos s1, a1, s_lift, s_to_ok, asT_nm, List.set_cons_succ, List.set_cons_zero, seq_nx, ex_ite, ev_cmp, ev_idx, ev_con, iq0, iq4, iq5, e6, Option.map_some, s_asB, if_true, ev_bi, bListT, a2, a3, exs_nil])).1
      (by simp)
  unfold allBody at hs
  obtain ⟨e, ⟨u, rfl⟩, he⟩ := hs
  refine ⟨[some (.tup xs), some (.lst (xs.flatMap stepsD)), u], ?_⟩
  rw [List.nil_append] at he
  simp [b_all_steps, s0, he]
end
end KK
end Rf
end T_K01Nc
section T_K01Nd
set_option Elab.async false
set_option linter.all false
set_option maxRecDepth 100000
set_option maxHeartbeats 4000000
namespace Rf
namespace KK
open PySem L2
section
variable {k j n : Nat} {M : Mem}
theorem recvC {xs : List D} : recv M .count (.lst xs) = some () := rfl
theorem is_script_of_eq {ts : List D} {p s d : D} (h : okD k j d = true) (hj : j ≤ 60) (hk : k ≤ 500) : callN gi.tab (n + 8) 23 [.tup [.tup ts, p, s], d] M = ok (.bl (isScr ((ts.length : Int) - 1) d)) M := by
  refine call_ex (fd := f_is_script_of.fd) rfl rfl ?_
  show ∃ e, exs _ b_is_script_of [some (.tup [.tup ts, p, s]), some d, none, none] M = _
  have tyt := ty_tup h
  by_cases hd : ∃ xs, d = .tup xs
  · obtain ⟨xs, rfl⟩ := hd
    obtain ⟨j', rfl, hlen, hx⟩ := okD_tup h
    generalize ht : (ts.length : Int) - 1 = t
    have hv : isScr t (.tup xs) = (decide ((xs.length : Int) ≤ 6) && (xs.all (isStep t) && (decide (((wordsL xs).length : Int) ≤ 10) && decide ((((wordsL xs).filter fun y => decide (y = ("read" : Str))).length : Int) ≤ 2)))) := rfl
    rw [hv]
    have hlc := ev_lc_of (cl := callN gi.tab (n + 7)) (env := [some (.tup [.tup ts, p, s]), some (.tup xs), none, none]) (M := M) (e := .call 21 (.cons (.var 0) (.cons (.var 2) .nil)) [.bl true]) (i := 2) (it := .seq (.var 1)) (xs := xs) (fun x => .bl (isStep t x))
        (by simp) (sz (by omega)) (by intro x hx'; have f := is_step_1 (n := n) (M := M) (ts := ts) (p := p) (s := s) (hx x hx') (by omega) hk; rw [ht] at f; simp [f])
    by_cases g : (xs.length : Int) ≤ 6
    · have g' : ¬ 6 < (xs.length : Int) := by omega
      rw [decide_eq_true g]
      cases g2 : xs.all (isStep t) with
      | false =>
        refine ⟨[some (.tup [.tup ts, p, s]), some (.tup xs), none, none], ?_⟩
        simp [b_is_script_of, tyT, g', hlc, bAll_map, g2]
      | true =>
        refine ⟨[some (.tup [.tup ts, p, s]), some (.tup xs), none, some (.lst ((wordsL xs).map .str))], ?_⟩
        have hl6 : xs.length ≤ 6 := by omega
        have fl := len_flat g2
        have fw := flat_words g2
        have hal := all_steps_eq (n := n + 6) (M := M) g2 hx hl6
        have hlc2 := ev_lc_of (cl := callN gi.tab (n + 7)) (env := [some (.tup [.tup ts, p, s]), some (.tup xs), none, none]) (M := M) (e := .idx (.var 2) (.con (.int (0)))) (i := 2) (it := .seq (.call 22 (.cons (.var 1) .nil) [])) (xs := xs.flatMap stepsD) firstD
          (by simp [hal]) (sz (by omega)) (by
            intro x hx'
            obtain ⟨w, r, rfl⟩ := fw.2 x hx'
            simp [iq0, firstD])
        rw [fw.1] at hlc2
        have hc := count_read (M := M) (l := wordsL xs)
        have hcm : ev (callN gi.tab (n + 7)) (.me .count (.var 3) (.cons (.con k_READ) .nil)) [some (.tup [.tup ts, p, s]), some (.tup xs), none, some (.lst ((wordsL xs).map .str))] M = ok (.int (((wordsL xs).filter fun y => decide (y = ("read" : Str))).length : Nat)) M := by
          unfold ev
          have hc' : eBi M .count [.lst ((wordsL xs).map .str), k_READ] = _ := hc
          simp [recvC, hc']
        have hll : (((wordsL xs).map D.str).length : Int) = ((wordsL xs).length : Int) := by rw [List.length_map]
        by_cases g3 : ((wordsL xs).length : Int) ≤ 10
        · rw [decide_eq_true g3]
          simp [b_is_script_of, tyT, g', hlc, hlc2, bAll_map, g2, hcm, g3]
        · rw [decide_eq_false g3]
          simp [b_is_script_of, tyT, g', hlc, hlc2, bAll_map, g2, g3]
    · have g' : 6 < (xs.length : Int) := by omega
      rw [decide_eq_false g]
      refine ⟨[some (.tup [.tup ts, p, s]), some (.tup xs), none, none], ?_⟩
      simp [b_is_script_of, tyT, g']
  · have ty : isTy .tuple d = some false := by
      rw [tyt]
      cases d <;> first | rfl | exact absurd ⟨_, rfl⟩ hd
    have : isScr ((ts.length : Int) - 1) d = false := by cases d <;> first | rfl | exact absurd ⟨_, rfl⟩ hd
    rw [this]
    refine ⟨[some (.tup [.tup ts, p, s]), some d, none, none], ?_⟩
    simp [b_is_script_of, ty]
theorem is_script_eq {ts : List D} {p s d : D} (h0 : okD k j (.tup [.tup ts, p, s]) = true) (hw : isW (.tup [.tup ts, p, s]) = true) (h : okD k j d = true) (hj : j ≤ 60) (hk : k ≤ 500) : callN gi.tab (n + 9) 26 [.tup [.tup ts, p, s], d] M = ok (.bl (isScr ((ts.length : Int) - 1) d)) M := by
  refine call_ex (fd := f_is_script.fd) rfl rfl ⟨[some (.tup [.tup ts, p, s]), some d], ?_⟩
  show exs _ b_is_script [some (.tup [.tup ts, p, s]), some d] M = _
  have h1 := need_world_eq (n := n) (M := M) h0 hw hk
  have h2 := is_script_of_eq (n := n) (M := M) (ts := ts) (p := p) (s := s) h hj hk
  simp [b_is_script, h1, h2]
def scrBody : List CS := [.asg (.nm 4) (.call 50 (.cons (.var 0) (.cons (.var 3) .nil)) []),
    .ite (.isN (.var 4))
    [.ret (.con (.bl false))]
    [],
    .asg (.nm 2) (.bin .add (.var 2) (.var 4))]
def gW (t : Int) (x : D) : List D := if isStep t x = true then (wordsS x).map .str else []
theorem gW_len {t : Int} : ∀ xs : List D, (xs.flatMap (gW t)).length ≤ 7 * xs.length
  | [] => Nat.le_refl _
  | x :: xs => by
    have h2 := gW_len (t := t) xs
    have h1 : (gW t x).length ≤ 7 := by
      unfold gW
      split
      · rename_i h
        rw [List.length_map]
        exact (words_len h).1
      · exact Nat.zero_le _
    rw [List.flatMap_cons, List.length_append, List.length_cons]
    omega
theorem gW_all {t : Int} : ∀ {xs : List D}, xs.all (isStep t) = true → xs.flatMap (gW t) = (wordsL xs).map .str
  | [], _ => rfl
  | x :: xs, h => by
    rw [List.all_cons, Bool.and_eq_true] at h
    have h2 := gW_all h.2
    unfold wordsL at h2 ⊢
    rw [List.flatMap_cons, List.flatMap_cons, List.map_append, h2]
    unfold gW
    rw [if_pos h.1]
theorem law_is_script_eq {ts : List D} {p s d : D} (h : okD k j d = true) (hj : j ≤ 60) (hk : k ≤ 500) : callN gi.tab (n + 4) 51 [.tup [.tup ts, p, s], d] M = ok (.bl (isScr ((ts.length : Int) - 1) d)) M := by
  refine call_ex (fd := f__law_is_script.fd) rfl rfl ?_
  show ∃ e, exs _ b__law_is_script [some (.tup [.tup ts, p, s]), some d, none, none, none] M = _
  have tyt := ty_tup h
  have s0 : 0 ≤ sizeLine := line1 0 (by decide)
  by_cases hd : ∃ xs, d = .tup xs
  · obtain ⟨xs, rfl⟩ := hd
    obtain ⟨j', rfl, hlen, hx⟩ := okD_tup h
    generalize ht : (ts.length : Int) - 1 = t
    have hv : isScr t (.tup xs) = (decide ((xs.length : Int) ≤ 6) && (xs.all (isStep t) && (decide (((wordsL xs).length : Int) ≤ 10) && decide ((((wordsL xs).filter fun y => decide (y = ("read" : Str))).length : Int) ≤ 2)))) := rfl
    rw [hv]
    by_cases g : (xs.length : Int) ≤ 6
    · have g' : ¬ 6 < (xs.length : Int) := by omega
      rw [decide_eq_true g]
      have hs := forS_acc (tg := .nm 3) (b := exs (callN gi.tab (n + 3)) scrBody) (M := M) (r := .bl false) (isStep t) (gW t)
        (fun acc e => ∃ u v, e = [some (.tup [.tup ts, p, s]), some (.tup xs), some (.lst acc), u, v]) 900 xs [] [some (.tup [.tup ts, p, s]), some (.tup xs), some (.lst []), none, none] ⟨_, _, rfl⟩ (by
          have := gW_len (t := t) xs
          simp only [List.length_nil]
          omega) (by
          intro x hxm acc e he hlen
          obtain ⟨u, v, rfl⟩ := he
          have f := law_count_eq (n := n) (M := M) (ts := ts) (p := p) (s := s) (hx x hxm) (by omega) hk
          rw [ht] at f
          unfold cntD at f
          cases g2 : isStep t x with
          | false =>
            rw [g2, if_neg Bool.false_ne_true] at f
            refine ⟨_, [some (.tup [.tup ts, p, s]), some (.tup xs), some (.lst acc), some x, some .non], rfl, fun h => (by cases h), ?_⟩
            simp [scrBody, f, isNon]
          | true =>
            rw [g2, if_pos rfl] at f
            have hg : gW t x = (wordsS x).map .str := if_pos g2
            rw [hg] at hlen ⊢
            have a1 : eOp M .add (.lst acc) (.lst ((wordsS x).map .str)) = some (.lst (acc ++ (wordsS x).map .str)) := addL (by omega)
            refine ⟨_, [some (.tup [.tup ts, p, s]), some (.tup xs), some (.lst (acc ++ (wordsS x).map .str)), some x, some (.lst ((wordsS x).map .str))], rfl, fun _ => ⟨_, _, rfl⟩, ?_⟩
            simp [scrBody, f, isNon, a1])
      unfold scrBody at hs
      cases g2 : xs.all (isStep t) with
      | false =>
        obtain ⟨e, he⟩ := hs.2 g2
        refine ⟨e, ?_⟩
        simp [b__law_is_script, tyT, g', s0, he]
      | true =>
        obtain ⟨e, ⟨u, v, rfl⟩, he⟩ := hs.1 g2
        rw [List.nil_append, gW_all g2] at he
        refine ⟨[some (.tup [.tup ts, p, s]), some (.tup xs), some (.lst ((wordsL xs).map .str)), u, v], ?_⟩
        have hc := count_read (M := M) (l := wordsL xs)
        have hcm : ev (callN gi.tab (n + 3)) (.me .count (.var 2) (.cons (.con (.str "read")) .nil)) [some (.tup [.tup ts, p, s]), some (.tup xs), some (.lst ((wordsL xs).map .str)), u, v] M = ok (.int (((wordsL xs).filter fun y => decide (y = ("read" : Str))).length : Nat)) M := by
          unfold ev
          simp [recvC, hc]
        by_cases g3 : ((wordsL xs).length : Int) ≤ 10
        · rw [decide_eq_true g3]
          simp [b__law_is_script, tyT, g', s0, he, hcm, g3]
        · rw [decide_eq_false g3]
          simp [b__law_is_script, tyT, g', s0, he, g3]
    · have g' : 6 < (xs.length : Int) := by omega
      rw [decide_eq_false g]
      refine ⟨[some (.tup [.tup ts, p, s]), some (.tup xs), none, none, none], ?_⟩
      simp [b__law_is_script, tyT, g']
  · have ty : isTy .tuple d = some false := by
      rw [tyt]
      cases d <;> first | rfl | exact absurd ⟨_, rfl⟩ hd
    have : isScr ((ts.length : Int) - 1) d = false := by cases d <;> first | rfl | exact absurd ⟨_, rfl⟩ hd
    rw [this]
    refine ⟨[some (.tup [.tup ts, p, s]), some d, none, none, none], ?_⟩
    simp [b__law_is_script, ty]
end
end KK
end Rf
end T_K01Nd
section T_K01Ne
set_option Elab.async false
set_option linter.all false
set_option maxRecDepth 100000
set_option maxHeartbeats 4000000
namespace Rf
namespace KK
open PySem L2
section
variable {k j n : Nat} {M : Mem}
theorem beq3 {a b c : Bool} : eCo .eq (.lst [.bl a, .bl b, .bl c]) (.lst [.bl a, .bl b, .bl c]) = some true := by
  show eEq (.lst [.bl a, .bl b, .bl c]) (.lst [.bl a, .bl b, .bl c]) = _
  rw [eEq_of ⟨rfl, by cases a <;> cases b <;> cases c <;> rfl⟩ ⟨rfl, by cases a <;> cases b <;> cases c <;> rfl⟩]
  cases a <;> cases b <;> cases c <;> rfl
theorem all_right_eq {w d : D} (h0 : okD k j w = true) (hw : isW w = true) (h : okD k j d = true) (hj : j ≤ 60) (hk : k ≤ 500) : callN gi.tab (n + 10) 54 [w, d] M = ok (.bl true) M := by
  obtain ⟨ts, p, s, rfl, _⟩ := isW_eq hw
  have f1 := is_world_eq (n := n + 2) (M := M) h hk
  have f2 := is_values_eq (n := n) (M := M) h0 hw h hk
  have f3 := is_script_eq (n := n) (M := M) h0 hw h hj hk
  have f4 := law_is_world_eq (n := n + 5) (M := M) h hk hj
  have f5 := law_is_meant_eq (n := n + 6) (M := M) hw h hk
  have f6 := law_is_script_eq (n := n + 5) (M := M) (ts := ts) (p := p) (s := s) h hj hk
  have s0 : 0 ≤ sizeLine := line1 0 (by decide)
  have s3 : 3 ≤ sizeLine := line1 3 (by decide)
  generalize isW d = x1 at f1 f4
  generalize isV _ d = x2 at f2 f5
  generalize isScr _ d = x3 at f3 f6
  refine call_ex (fd := f__law_all_right.fd) rfl rfl ⟨[some (.tup [.tup ts, p, s]), some d, some (.lst [.bl x1, .bl x2, .bl x3]), none], ?_⟩
  show exs _ b__law_all_right [some (.tup [.tup ts, p, s]), some d, none, none] M = _
  have hlc := ev_lcIf_of (cl := callN gi.tab (n + 9)) (env := [some (.tup [.tup ts, p, s]), some d, some (.lst [.bl x1, .bl x2, .bl x3]), none]) (M := M) (e := .var 3) (i := 3) (it := .seq (.var 2))
      (c := .not (.isi (.var 3) .bool)) (xs := [.bl x1, .bl x2, .bl x3]) (fun _ => false) (by simp) (line1 3 (by decide))
      (by
        intro z hz
        simp only [List.mem_cons, List.not_mem_nil, or_false] at hz
        rcases hz with rfl | rfl | rfl <;> simp [isTy])
      (by intro z hz h; cases h)
  have hne : eCo .ne (.lst []) (.lst []) = some false := by
    show (eEq (.lst []) (.lst [])).map not = _
    rw [eEq_nil ⟨rfl, rfl⟩]; rfl
  rw [show [D.bl x1, .bl x2, .bl x3].filter (fun _ => false) = [] from rfl] at hlc
  simp [b__law_all_right, f1, f2, f3, f4, f5, f6, hlc, s0, s3, hne, beq3]
end
end KK
end Rf
end T_K01Ne
section T_K01Nf
set_option Elab.async false
set_option linter.all false
set_option maxRecDepth 100000
set_option maxHeartbeats 4000000
namespace Rf
namespace KK
open PySem L2
/-! ### draws -/
/-- the memory with a jar in cell c -/
def mj (M : Mem) (c : Nat) (q : Int × Int) : Mem := M.set c (.lst [.int q.1, .int q.2])
def jok (q : Int × Int) : Prop := 0 ≤ q.1 ∧ 0 ≤ q.2 ∧ q.2 < 2147482943
theorem mj_len {M : Mem} {c : Nat} {q : Int × Int} : (mj M c q).length = M.length := by unfold mj; rw [List.length_set]
theorem mj_at {M : Mem} {c : Nat} {q : Int × Int} (h : c < M.length) : (mj M c q)[c]? = some (.lst [.int q.1, .int q.2]) := by unfold mj; rw [List.getElem?_set_self h]
theorem mj_set {M : Mem} {c : Nat} {q r : Int × Int} : (mj M c q).set c (.lst [.int r.1, .int r.2]) = mj M c r := by unfold mj; rw [List.set_set]
theorem call_exL {T : Tab} {n f : Nat} {fd : Fd} {args : List D} {M M' : Mem} {d : D} (h : T f = some fd) (ha : args.length = fd.arity) (hl : M'.length = M.length)
    (hb : ∃ e, exs (callN T n) fd.body (args.map some ++ List.replicate (fd.slots - args.length) none) M = some (.ret d, e, M')) : callN T (n + 1) f args M = ok d M' := by
  obtain ⟨e, hb⟩ := hb
  rw [call_ret h ha hb]
  unfold leave
  rw [List.take_of_length_le (by omega)]
  split <;> rfl
section
variable {n c : Nat} {M : Mem} {q : Int × Int}
theorem jar_i0 (h : c < M.length) : eIdx (mj M c q) (.cell c) (.int 0) = some (.int q.1) := by
  unfold eIdx
  simp only [mj_at h]
  rfl
theorem jar_i1 (h : c < M.length) : eIdx (mj M c q) (.cell c) (.int 1) = some (.int q.2) := by
  unfold eIdx
  simp only [mj_at h]
  rfl
theorem jar_s0 {x : Int} (h : c < M.length) : eSetI (mj M c q) (.cell c) (.int 0) (.int x) = some (mj M c (x, q.2)) := by
  unfold eSetI
  simp only [mj_at h]
  show some ((mj M c q).set c (.lst [.int x, .int q.2])) = _
  rw [show (mj M c q).set c (.lst [.int x, .int q.2]) = mj M c (x, q.2) from mj_set (r := (x, q.2))]
theorem jar_s1 {x : Int} (h : c < M.length) : eSetI (mj M c q) (.cell c) (.int 1) (.int x) = some (mj M c (q.1, x)) := by
  unfold eSetI
  simp only [mj_at h]
  show some ((mj M c q).set c (.lst [.int q.1, .int x])) = _
  rw [show (mj M c q).set c (.lst [.int q.1, .int x]) = mj M c (q.1, x) from mj_set (r := (q.1, x))]
@[simp] theorem ex_setI {cl : Calls} {o i e : CE} {env : Env} {M : Mem} : ex cl (.setI o i e) env M = (ev cl e env M).to env fun v M => (ev cl o env M).to env fun x M => (ev cl i env M).to env fun y M => match eSetI M x y v with
    | some M => some (.nx, env, M)
    | none => none := rfl
theorem dip_eq {m : Int} (h : c < M.length) (hq : jok q) (hm : 0 < m) (hm2 : m ≤ 1000) : ∃ v q', callN gi.tab (n + 1) 29 [.cell c, .int m] (mj M c q) = ok (.int v) (mj M c q') ∧ jok q' ∧ 0 ≤ v ∧ v < m := by
  have hmb : m.natAbs < 2 ^ 250 := by
    have : (1000 : Nat) < 2 ^ 250 := by decide
    omega
  obtain ⟨h0, h1, h2⟩ := hq
  by_cases g : 0 < q.1
  · refine ⟨q.1 % m, (q.1 / m, q.2), ?_, ⟨Int.ediv_nonneg h0 (by omega), h1, h2⟩, Int.emod_nonneg _ (by omega), Int.emod_lt_of_pos _ hm⟩
    refine call_exL (fd := f__law_dip.fd) rfl rfl (by rw [mj_len, mj_len]) ⟨[some (.cell c), some (.int m), some (.int (q.1 % m)), none], ?_⟩
    show exs _ b__law_dip [some (.cell c), some (.int m), none, none] (mj M c q) = _
    simp [b__law_dip, jar_i0 h, g, eMod hm, eDiv hm hmb, jar_s0 h]
  · generalize hx : (q.2 * 39373 + 1009) % 2147482943 = x
    have hx0 : 0 ≤ x := by rw [← hx]; exact Int.emod_nonneg _ (by decide)
    have hx1 : x < 2147482943 := by rw [← hx]; exact Int.emod_lt_of_pos _ (by decide)
    generalize hy : x * (x / 23 + 29) % 2147482937 = y
    have hd : 0 ≤ x / 23 := Int.ediv_nonneg hx0 (by decide)
    have big : (2147482943 * 39373 + 1009 : Nat) < 2 ^ 250 := by decide
    have m1 : ∀ M : Mem, eOp M .mul (.int q.2) (.int 39373) = some (.int (q.2 * 39373)) := fun M => eMul (by omega) (by omega)
    have m2 : ∀ M : Mem, eOp M .mul (.int x) (.int (x / 23 + 29)) = some (.int (x * (x / 23 + 29))) := fun M => eMul (by omega) (by omega)
    have m3 : ∀ M : Mem, eOp M .mod (.int (q.2 * 39373 + 1009)) (.int 2147482943) = some (.int x) := fun M => by rw [eMod (by decide), hx]
    have m4 : ∀ M : Mem, eOp M .mod (.int (x * (x / 23 + 29))) (.int 2147482937) = some (.int y) := fun M => by rw [eMod (by decide), hy]
    have m5 : ∀ M : Mem, eOp M .fdiv (.int x) (.int 23) = some (.int (x / 23)) := fun M => eDiv (by decide) (by decide)
    have m6 : ∀ M : Mem, eOp M .fdiv (.int y) (.int 29) = some (.int (y / 29)) := fun M => eDiv (by decide) (by decide)
    have j1 : eIdx (mj M c (q.1, x)) (.cell c) (.int 1) = some (.int x) := jar_i1 h
    refine ⟨y / 29 % m, (q.1, x), ?_, ⟨h0, hx0, hx1⟩, Int.emod_nonneg _ (by omega), Int.emod_lt_of_pos _ hm⟩
    refine call_exL (fd := f__law_dip.fd) rfl rfl (by rw [mj_len, mj_len]) ⟨[some (.cell c), some (.int m), none, some (.int y)], ?_⟩
    show exs _ b__law_dip [some (.cell c), some (.int m), none, none] (mj M c q) = _
    simp [b__law_dip, jar_i0 h, jar_i1 h, g, m1, m2, m3, m4, m5, m6, eMod hm, jar_s1 h, j1]
theorem atI_mem {xs : List D} {v : Int} (h0 : 0 ≤ v) (h1 : v < (xs.length : Int)) : ∃ x ∈ xs, atI xs v = some x := by
  unfold atI
  have : ixN xs.length v = some v.toNat := by
    unfold ixN
    rw [if_pos h0, if_pos (by omega)]
  rw [this]
  have hl : v.toNat < xs.length := by omega
  refine ⟨xs[v.toNat], List.getElem_mem hl, ?_⟩
  show xs[v.toNat]? = _
  rw [List.getElem?_eq_getElem hl]
theorem any_of_eq {xs : List D} (h : c < M.length) (hq : jok q) (hx : xs ≠ []) (hl : xs.length ≤ 1000) : ∃ v q', callN gi.tab (n + 2) 30 [.cell c, .lst xs] (mj M c q) = ok v (mj M c q') ∧ jok q' ∧ v ∈ xs := by
  have hpos : 0 < xs.length := by cases xs with
    | nil => exact absurd rfl hx
    | cons => simp
  obtain ⟨v, q', h1, h2, h3, h4⟩ := dip_eq (n := n) (M := M) (m := (xs.length : Int)) h hq (by omega) (by omega)
  obtain ⟨x, hxm, hat⟩ := atI_mem h3 h4
  have hi : eIdx (mj M c q') (.lst xs) (.int v) = some x := hat
  refine ⟨x, q', ?_, h2, hxm⟩
  refine call_exL (fd := f__law_any_of.fd) rfl rfl (by rw [mj_len, mj_len]) ⟨[some (.cell c), some (.lst xs)], ?_⟩
  show exs _ b__law_any_of [some (.cell c), some (.lst xs)] (mj M c q) = _
  simp [b__law_any_of, h1, hi]
end
end KK
end Rf
end T_K01Nf
section T_K01Ng
set_option Elab.async false
set_option linter.all false
set_option maxRecDepth 100000
set_option maxHeartbeats 4000000
namespace Rf
namespace KK
open PySem L2
theorem forS_st {tg : Tg} {b : Env → Mem → SRes} (I : Nat → Env → Mem → Prop) (T : Nat) : ∀ (xs : List D) (i : Nat) (env : Env) (M : Mem), i + xs.length ≤ T → I i env M →
    (∀ x ∈ xs, ∀ i e M, i < T → I i e M → ∃ e1 e2 M2, asT tg x e = some e1 ∧ b e1 M = some (.nx, e2, M2) ∧ I (i + 1) e2 M2) → ∃ e M', forS tg b xs env M = some (.nx, e, M') ∧ I (i + xs.length) e M'
  | [], i, env, M, _, hI, _ => ⟨env, M, rfl, hI⟩
  | x :: xs, i, env, M, hT, hI, h => by
    rw [List.length_cons] at hT
    obtain ⟨e1, e2, M2, h1, h2, h3⟩ := h x (List.mem_cons_self ..) i env M (by omega) hI
    obtain ⟨e, M', h4, h5⟩ := forS_st I T xs (i + 1) e2 M2 (by omega) h3 fun y hy => h y (List.mem_cons_of_mem _ hy)
    refine ⟨e, M', ?_, by rw [List.length_cons]; rw [show i + (xs.length + 1) = i + 1 + xs.length by omega]; exact h5⟩
    show (match asT tg x env with
      | none => none
      | some env => match b env M with
        | some (.nx, e, M) => forS tg b xs e M
        | some (.cont, e, M) => forS tg b xs e M
        | some (.brk, e, M) => some (.nx, e, M)
        | r => r) = _
    rw [h1]
    show (match b e1 M with
        | some (.nx, e, M) => forS tg b xs e M
        | some (.cont, e, M) => forS tg b xs e M
        | some (.brk, e, M) => some (.nx, e, M)
        | r => r) = _
    rw [h2]
    exact h4
def drawnP (lo hi b : Int) (v : D) : Prop := ∃ x y, lo ≤ x ∧ x ≤ y ∧ y ≤ hi ∧ v = .tup [low x b, low y b]
def chkP (la lb ha hb b : Int) (lo hi : Nat) : Bool := (List.range (hi + 1)).all fun x => (List.range (hi + 1)).all fun y => !(decide (lo ≤ x) && decide (x ≤ y)) || (isP la lb ha hb (.tup [low (x : Nat) b, low (y : Nat) b]) && okD 0 2 (.tup [low (x : Nat) b, low (y : Nat) b]))
theorem chkP_of {la lb ha hb b : Int} {lo hi : Nat} (h : chkP la lb ha hb b lo hi = true) {v : D} (hv : drawnP lo hi b v) : isP la lb ha hb v = true ∧ okD 0 2 v = true := by
  obtain ⟨x, y, h1, h2, h3, rfl⟩ := hv
  obtain ⟨x', rfl⟩ := Int.eq_ofNat_of_zero_le (show 0 ≤ x by omega)
  obtain ⟨y', rfl⟩ := Int.eq_ofNat_of_zero_le (show 0 ≤ y by omega)
  have h4 := List.all_eq_true.mp (List.all_eq_true.mp h x' (List.mem_range.mpr (by omega))) y' (List.mem_range.mpr (by omega))
  rw [decide_eq_true (show lo ≤ x' by omega), decide_eq_true (show x' ≤ y' by omega)] at h4
  simpa using h4
section
variable {n c : Nat} {M : Mem} {q : Int × Int}
theorem pair_eq {lo hi b : Int} (h : c < M.length) (hq : jok q) (h0 : 0 ≤ lo) (h1 : lo ≤ hi) (h2 : hi ≤ 200) (hb : 0 < b) (hb2 : b ≤ 200) : ∃ v q', callN gi.tab (n + 2) 36 [.cell c, .int lo, .int hi, .int b] (mj M c q) = ok v (mj M c q') ∧ jok q' ∧ drawnP lo hi b v := by
  have big : (200 : Nat) < 2 ^ 250 := by decide
  obtain ⟨v1, q1, d1, k1, a1, b1⟩ := dip_eq (n := n) (M := M) (m := hi - lo + 1) h hq (by omega) (by omega)
  obtain ⟨v2, q2, d2, k2, a2, b2⟩ := dip_eq (n := n) (M := M) (m := hi - (lo + v1) + 1) h k1 (by omega) (by omega)
  obtain ⟨v3, q3, d3, k3, a3, b3⟩ := dip_eq (n := n) (M := M) (m := 3) h k2 (by omega) (by omega)
  obtain ⟨f, hf, hf0⟩ : ∃ f : Int, (v2 * (if 0 < v3 then (1 : Int) else 0)) = f ∧ 0 ≤ f ∧ f ≤ v2 := by
    refine ⟨_, rfl, ?_⟩
    split <;> omega
  have m1 : ∀ M : Mem, eOp M .mul (.int v2) (.int (if 0 < v3 then (1 : Int) else 0)) = some (.int f) := fun M => by
    rw [eMul (by omega) (by split <;> decide), hf]
  have bi : ∀ (M : Mem) (t : Bool), eBi M .int [.bl t] = some (.int (if t = true then 1 else 0)) := fun _ _ => rfl
  have l1 := lawlow_eq n (lo + v1) b (mj M c q3) hb (by omega)
  have l2 := lawlow_eq n (lo + v1 + f) b (mj M c q3) hb (by omega)
  refine ⟨.tup [low (lo + v1) b, low (lo + v1 + f) b], q3, ?_, k3, lo + v1, lo + v1 + f, by omega, by omega, by omega, rfl⟩
  refine call_exL (fd := f__law_pair.fd) rfl rfl (by rw [mj_len, mj_len]) ⟨[some (.cell c), some (.int lo), some (.int hi), some (.int b), some (.int (lo + v1)), some (.int f)], ?_⟩
  show exs _ b__law_pair [some (.cell c), some (.int lo), some (.int hi), some (.int b), none, none] (mj M c q) = _
  simp [b__law_pair, d1, d2, d3, bi, m1, l1, l2, two]
end
end KK
end Rf
end T_K01Ng
section T_K01Nh
set_option Elab.async false
set_option linter.all false
set_option maxRecDepth 100000
set_option maxHeartbeats 4000000
namespace Rf
namespace KK
open PySem L2
section
variable {n c : Nat} {M : Mem} {q : Int × Int}
def tape1 : D := .tup [.tup [.int 1, .int 1], .tup [.int 1, .int 1]]
def tape2 : D := .tup [.tup [.int 49, .int 50], .tup [.int 51, .int 50]]
theorem tape1_ok : isP 49 50 51 50 tape1 = true ∧ okD 0 2 tape1 = true := by decide +kernel
theorem tape2_ok : isP 49 50 51 50 tape2 = true ∧ okD 0 2 tape2 = true := by decide +kernel
theorem tape3_ok {v : D} (h : drawnP 98 102 100 v) : isP 49 50 51 50 v = true ∧ okD 0 2 v = true := chkP_of (lo := 98) (hi := 102) (by decide +kernel) h
theorem lack_ok {b hi : Int} {v : D} (hb : b = 1 ∨ b = 2 ∨ b = 10 ∨ b = 7) (hh : hi = b ∨ hi = 2 * b) (h : drawnP 0 hi b v) : isP 0 1 2 1 v = true ∧ okD 0 2 v = true := by
  rcases hb with rfl | rfl | rfl | rfl <;> rcases hh with rfl | rfl
  · exact chkP_of (lo := 0) (hi := 1) (by decide +kernel) h
  · exact chkP_of (lo := 0) (hi := 2) (by decide +kernel) h
  · exact chkP_of (lo := 0) (hi := 2) (by decide +kernel) h
  · exact chkP_of (lo := 0) (hi := 4) (by decide +kernel) h
  · exact chkP_of (lo := 0) (hi := 10) (by decide +kernel) h
  · exact chkP_of (lo := 0) (hi := 20) (by decide +kernel) h
  · exact chkP_of (lo := 0) (hi := 7) (by decide +kernel) h
  · exact chkP_of (lo := 0) (hi := 14) (by decide +kernel) h
theorem pencil_ok {v : D} (h : drawnP 0 5 10 v) : isP 0 1 1 2 v = true ∧ okD 0 2 v = true := chkP_of (lo := 0) (hi := 5) (by decide +kernel) h
theorem saw_ok {v : D} (h : drawnP 0 10 20 v) : isP 0 1 1 2 v = true ∧ okD 0 2 v = true := chkP_of (lo := 0) (hi := 10) (by decide +kernel) h
def worldBody : List CS := [.asg (.nm 3) (.call 30 (.cons (.var 0) (.cons (.lst (.cons (.con (.int (1))) (.cons (.con (.int (2))) (.cons (.con (.int (10))) (.cons (.con (.int (7))) .nil))))) .nil)) []),
    .asg (.nm 4) (.lst (.cons (.tup (.cons (.tup (.cons (.con (.int (1))) (.cons (.con (.int (1))) .nil))) (.cons (.tup (.cons (.con (.int (1))) (.cons (.con (.int (1))) .nil))) .nil))) (.cons (.tup (.cons (.tup (.cons (.con (.int (49))) (.cons (.con (.int (50))) .nil))) (.cons (.tup (.cons (.con (.int (51))) (.cons (.con (.int (50))) .nil))) .nil))) (.cons (.call 36 (.cons (.var 0) (.cons (.con (.int (98))) (.cons (.con (.int (102))) (.cons (.con (.int (100))) .nil)))) []) .nil)))),
    .asg (.nm 5) (.call 36 (.cons (.var 0) (.cons (.con (.int (0))) (.cons (.call 30 (.cons (.var 0) (.cons (.lst (.cons (.var 3) (.cons (.bin .mul (.con (.int (2))) (.var 3)) .nil))) .nil)) []) (.cons (.var 3) .nil)))) []),
    .asg (.nm 1) (.bin .add (.var 1) (.tup (.cons (.tup (.cons (.var 5) (.cons (.call 30 (.cons (.var 0) (.cons (.var 4) .nil)) []) .nil))) .nil)))]
theorem worldBody_eq {ts : List D} {u2 u3 u4 u5 : Option D} (h : c < M.length) (hq : jok q) (hl : ts.length ≤ 10) : ∃ t a b d q', exs (callN gi.tab (n + 2)) worldBody [some (.cell c), some (.tup ts), u2, u3, u4, u5] (mj M c q) = some (.nx, [some (.cell c), some (.tup (ts ++ [t])), u2, a, b, d], mj M c q') ∧ jok q' ∧ isTape t = true ∧ okD 0 3 t = true := by
  have s1 : 1 ≤ sizeLine := line1 1 (by decide)
  have s2 : 2 ≤ sizeLine := line1 2 (by decide)
  have s3 : 3 ≤ sizeLine := line1 3 (by decide)
  have s4 : 4 ≤ sizeLine := line1 4 (by decide)
  obtain ⟨b, q1, d1, k1, hb0⟩ := any_of_eq (n := n) (M := M) (xs := [.int 1, .int 2, .int 10, .int 7]) h hq (by simp) (by simp)
  obtain ⟨b, rfl, hb⟩ : ∃ i : Int, b = .int i ∧ (i = 1 ∨ i = 2 ∨ i = 10 ∨ i = 7) := by
    simp only [List.mem_cons, List.not_mem_nil, or_false] at hb0
    rcases hb0 with rfl | rfl | rfl | rfl
    · exact ⟨_, rfl, .inl rfl⟩
    · exact ⟨_, rfl, .inr (.inl rfl)⟩
    · exact ⟨_, rfl, .inr (.inr (.inl rfl))⟩
    · exact ⟨_, rfl, .inr (.inr (.inr rfl))⟩
  have hb12 : 1 ≤ b ∧ b ≤ 10 := by omega
  obtain ⟨p3, q2, d2, k2, hp3⟩ := pair_eq (n := n) (M := M) (lo := 98) (hi := 102) (b := 100) h k1 (by decide) (by decide) (by decide) (by decide) (by decide)
  obtain ⟨hv, q3, d3, k3, hh0⟩ := any_of_eq (n := n) (M := M) (xs := [.int b, .int (2 * b)]) h k2 (by simp) (by simp)
  obtain ⟨hi, rfl, hh⟩ : ∃ i : Int, hv = .int i ∧ (i = b ∨ i = 2 * b) := by
    simp only [List.mem_cons, List.not_mem_nil, or_false] at hh0
    rcases hh0 with rfl | rfl
    · exact ⟨_, rfl, .inl rfl⟩
    · exact ⟨_, rfl, .inr rfl⟩
  obtain ⟨lk, q4, d4, k4, hlk⟩ := pair_eq (n := n) (M := M) (lo := 0) (hi := hi) (b := b) h k3 (by decide) (by omega) (by omega) (by omega) (by omega)
  obtain ⟨fa, q5, d5, k5, hfa⟩ := any_of_eq (n := n) (M := M) (xs := [tape1, tape2, p3]) h k4 (by simp) (by simp)
  have hlk2 := lack_ok hb hh hlk
  have hfa2 : isP 49 50 51 50 fa = true ∧ okD 0 2 fa = true := by
    simp only [List.mem_cons, List.not_mem_nil, or_false] at hfa
    rcases hfa with rfl | rfl | rfl
    · exact tape1_ok
    · exact tape2_ok
    · exact tape3_ok hp3
  have big : (200 : Nat) < 2 ^ 250 := by decide
  have m1 : ∀ M : Mem, eOp M .mul (.int 2) (.int b) = some (.int (2 * b)) := fun M => eMul (by decide) (by omega)
  have a1 : ∀ M : Mem, eOp M .add (.tup ts) (.tup [.tup [lk, fa]]) = some (.tup (ts ++ [.tup [lk, fa]])) := fun M => addT (by simp; omega)
  unfold tape1 tape2 at d5
  refine ⟨.tup [lk, fa], some (.int b), some (.lst [tape1, tape2, p3]), some lk, q5, ?_, k5, by show (isP 0 1 2 1 lk && isP 49 50 51 50 fa) = true; rw [hlk2.1, hfa2.1]; rfl, okD_tupI (by simp) (by
    intro x hx
    simp only [List.mem_cons, List.not_mem_nil, or_false] at hx
    rcases hx with rfl | rfl
    · exact hlk2.2
    · exact hfa2.2)⟩
  simp [worldBody, s1, s2, s3, s4, d1, d2, d3, d4, d5, m1, a1, tape1, tape2]
theorem world_eq (h : c < M.length) (hq : jok q) : ∃ w q', callN gi.tab (n + 3) 37 [.cell c] (mj M c q) = ok w (mj M c q') ∧ jok q' ∧ isW w = true ∧ okD 0 5 w = true := by
  have s0 : 0 ≤ sizeLine := line1 0 (by decide)
  have s3 : 3 ≤ sizeLine := line1 3 (by decide)
  obtain ⟨v, q1, d1, k1, a1, b1⟩ := dip_eq (n := n + 1) (M := M) (m := 2) h hq (by omega) (by omega)
  have hI : evI (callN gi.tab (n + 2)) (.rng (.bin .add (.con (.int (1))) (.call 29 (.cons (.var 0) (.cons (.con (.int (2))) .nil)) []))) [some (.cell c), some (.tup []), none, none, none, none] (mj M c q) = ok (rangeD 0 (1 + v)) (mj M c q1) := by
    have hs : small62 (1 + v) = true := by
      unfold small62
      rw [decide_eq_true (by omega), decide_eq_true (by omega)]; rfl
    unfold evI
    simp [d1, hs]
  have hlen : (rangeD 0 (1 + v)).length = (1 + v).toNat := by unfold rangeD; simp
  have hlen2 : (rangeD 0 (1 + v)).length ≤ 2 := by omega
  obtain ⟨e, M', h1, ts, u2, u3, u4, u5, q2, rfl, rfl, k2, hl, ht, ho⟩ := forS_st (tg := .nm 2) (b := exs (callN gi.tab (n + 2)) worldBody)
    (fun i e M' => ∃ ts u2 u3 u4 u5 q2, e = [some (.cell c), some (.tup ts), u2, u3, u4, u5] ∧ M' = mj M c q2 ∧ jok q2 ∧ ts.length = i ∧ ts.all isTape = true ∧ ∀ t ∈ ts, okD 0 3 t = true) 2
    (rangeD 0 (1 + v)) 0 [some (.cell c), some (.tup []), none, none, none, none] (mj M c q1) (by omega) ⟨[], _, _, _, _, _, rfl, rfl, k1, rfl, rfl, by intro t ht; cases ht⟩ (by
      intro x hx i e M' hi2 hi
      obtain ⟨ts, u2, u3, u4, u5, q2, rfl, rfl, k2, hl, ht, ho⟩ := hi
      obtain ⟨t, a, b, d, q3, h1, k3, h2, h3⟩ := worldBody_eq (n := n) (M := M) (ts := ts) (u2 := some x) (u3 := u3) (u4 := u4) (u5 := u5) h k2 (by omega)
      refine ⟨_, _, _, rfl, h1, ts ++ [t], _, _, _, _, q3, rfl, rfl, k3, by simp [hl], by rw [List.all_append, ht]; simp [h2], ?_⟩
      intro y hy
      rcases List.mem_append.mp hy with hy | hy
      · exact ho y hy
      · simp only [List.mem_cons, List.not_mem_nil, or_false] at hy
        subst hy; exact h3)
  obtain ⟨p1, q3, d3, k3, hp1⟩ := pair_eq (n := n) (M := M) (lo := 0) (hi := 5) (b := 10) h k2 (by decide) (by decide) (by decide) (by decide) (by decide)
  obtain ⟨p2, q4, d4, k4, hp2⟩ := pair_eq (n := n) (M := M) (lo := 0) (hi := 10) (b := 20) h k3 (by decide) (by decide) (by decide) (by decide) (by decide)
  have o1 := pencil_ok hp1
  have o2 := saw_ok hp2
  have hl12 : (decide ((ts.length : Int) = 1) || decide ((ts.length : Int) = 2)) = true := by
    rw [hlen] at hl
    rw [Bool.or_eq_true]
    by_cases hv : v = 0
    · left; exact decide_eq_true (by omega)
    · right; exact decide_eq_true (by omega)
  refine ⟨.tup [.tup ts, p1, p2], q4, ?_, k4, ?_, ?_⟩
  · refine call_exL (fd := f__law_world.fd) rfl rfl (by rw [mj_len, mj_len]) ⟨[some (.cell c), some (.tup ts), u2, u3, u4, u5], ?_⟩
    show exs _ b__law_world [some (.cell c), none, none, none, none, none] (mj M c q) = _
    unfold worldBody at h1
    simp [b__law_world, s0, s3, hI, h1, d3, d4]
  · show ((decide ((ts.length : Int) = 1) || decide ((ts.length : Int) = 2)) && (ts.all isTape && (isP 0 1 1 2 p1 && isP 0 1 1 2 p2))) = true
    rw [hl12, ht, o1.1, o2.1]; rfl
  · refine okD_tupI (by simp) ?_
    intro x hx
    simp only [List.mem_cons, List.not_mem_nil, or_false] at hx
    rcases hx with rfl | rfl | rfl
    · exact okD_tupI (by rw [hl]; omega) ho
    · exact okD_mono (Nat.le_refl _) (by omega) o1.2
    · exact okD_mono (Nat.le_refl _) (by omega) o2.2
end
end KK
end Rf
end T_K01Nh
section T_K01Ni
set_option Elab.async false
set_option linter.all false
set_option maxRecDepth 100000
set_option maxHeartbeats 4000000
namespace Rf
namespace KK
open PySem L2
def bd (B E : Nat) (v : D) : Prop := ∃ x y : Int, v = .tup [.int x, .int y] ∧ x.natAbs ≤ B ∧ 1 ≤ y ∧ y.natAbs ≤ E
theorem low_bd {a b : Int} {B E : Nat} (hb : 0 < b) (h1 : a.natAbs ≤ B) (h2 : b.natAbs ≤ E) : bd B E (low a b) := by
  have hg := gcdPos (a := a) hb
  have hgl := gcdLe (a := a) hb
  have e1 : (b / (Int.gcd a b : Int)) ≤ b := Int.ediv_le_self _ (by omega)
  have e0 : 1 ≤ b / (Int.gcd a b : Int) := Int.le_ediv_of_mul_le hg (by omega)
  refine ⟨_, _, rfl, Nat.le_trans (Int.natAbs_ediv_le_natAbs ..) h1, e0, by omega⟩
theorem mul_bd {x y : Int} {B E : Nat} (h1 : x.natAbs ≤ B) (h2 : y.natAbs ≤ E) : (x * y).natAbs ≤ B * E := by
  rw [Int.natAbs_mul]; exact Nat.mul_le_mul h1 h2
theorem sm {x : Int} {B : Nat} (h : x.natAbs ≤ B) (hB : B < 2 ^ 250) : x.natAbs < 2 ^ 250 := by omega
theorem pos_mul {b d : Int} (h1 : 1 ≤ b) (h2 : 1 ≤ d) : 0 < b * d := Int.mul_pos (by omega) (by omega)
section
variable {n : Nat} {M : Mem}
theorem add_eq {p r : D} {B1 E1 B2 E2 : Nat} (hp : bd B1 E1 p) (hr : bd B2 E2 r) (s1 : B1 < 2 ^ 250) (s2 : E1 < 2 ^ 250) (s3 : B2 < 2 ^ 250) (s4 : E2 < 2 ^ 250) (s5 : E1 * E2 < 2 ^ 250) : ∃ v, callN gi.tab (n + 2) 32 [p, r] M = ok v M ∧ bd (B1 * E2 + B2 * E1) (E1 * E2) v := by
  obtain ⟨a, b, rfl, ha, hb, hb2⟩ := hp
  obtain ⟨c, d, rfl, hc, hd, hd2⟩ := hr
  have q1 := mul_bd ha hd2
  have q2 := mul_bd hc hb2
  have q3 := mul_bd hb2 hd2
  have q0 := pos_mul hb hd
  have hl := lawlow_eq n (a * d + c * b) (b * d) M q0 (by omega)
  refine ⟨_, ?_, low_bd (a := a * d + c * b) q0 (by omega) q3⟩
  refine call_ex (fd := f__law_add.fd) rfl rfl ⟨[some (.tup [.int a, .int b]), some (.tup [.int c, .int d])], ?_⟩
  show exs _ b__law_add [some (.tup [.int a, .int b]), some (.tup [.int c, .int d])] M = _
  simp [b__law_add, idx0, idx1, eMul (sm ha s1) (sm hd2 s4), eMul (sm hc s3) (sm hb2 s2), eMul (sm hb2 s2) (sm hd2 s4), hl]
theorem sub_eq {p r : D} {B1 E1 B2 E2 : Nat} (hp : bd B1 E1 p) (hr : bd B2 E2 r) (s1 : B1 < 2 ^ 250) (s2 : E1 < 2 ^ 250) (s3 : B2 < 2 ^ 250) (s4 : E2 < 2 ^ 250) (s5 : E1 * E2 < 2 ^ 250) : ∃ v, callN gi.tab (n + 2) 33 [p, r] M = ok v M ∧ bd (B1 * E2 + B2 * E1) (E1 * E2) v := by
  obtain ⟨a, b, rfl, ha, hb, hb2⟩ := hp
  obtain ⟨c, d, rfl, hc, hd, hd2⟩ := hr
  have q1 := mul_bd ha hd2
  have q2 := mul_bd hc hb2
  have q3 := mul_bd hb2 hd2
  have q0 := pos_mul hb hd
  have hl := lawlow_eq n (a * d - c * b) (b * d) M q0 (by omega)
  refine ⟨_, ?_, low_bd (a := a * d - c * b) q0 (by omega) q3⟩
  refine call_ex (fd := f__law_sub.fd) rfl rfl ⟨[some (.tup [.int a, .int b]), some (.tup [.int c, .int d])], ?_⟩
  show exs _ b__law_sub [some (.tup [.int a, .int b]), some (.tup [.int c, .int d])] M = _
  simp [b__law_sub, idx0, idx1, eMul (sm ha s1) (sm hd2 s4), eMul (sm hc s3) (sm hb2 s2), eMul (sm hb2 s2) (sm hd2 s4), hl]
theorem mulF_eq {p r : D} {B1 E1 B2 E2 : Nat} (hp : bd B1 E1 p) (hr : bd B2 E2 r) (s1 : B1 < 2 ^ 250) (s2 : E1 < 2 ^ 250) (s3 : B2 < 2 ^ 250) (s4 : E2 < 2 ^ 250) (s5 : E1 * E2 < 2 ^ 250) : ∃ v, callN gi.tab (n + 2) 34 [p, r] M = ok v M ∧ bd (B1 * B2) (E1 * E2) v := by
  obtain ⟨a, b, rfl, ha, hb, hb2⟩ := hp
  obtain ⟨c, d, rfl, hc, hd, hd2⟩ := hr
  have q1 := mul_bd ha hc
  have q3 := mul_bd hb2 hd2
  have q0 := pos_mul hb hd
  have hl := lawlow_eq n (a * c) (b * d) M q0 (by omega)
  refine ⟨_, ?_, low_bd q0 (by omega) q3⟩
  refine call_ex (fd := f__law_mul.fd) rfl rfl ⟨[some (.tup [.int a, .int b]), some (.tup [.int c, .int d])], ?_⟩
  show exs _ b__law_mul [some (.tup [.int a, .int b]), some (.tup [.int c, .int d])] M = _
  simp [b__law_mul, idx0, idx1, eMul (sm ha s1) (sm hc s3), eMul (sm hb2 s2) (sm hd2 s4), hl]
theorem bdP {a b c d : Int} {x : D} (h : isP a b c d x = true) : ∃ u v, x = .tup [u, v] ∧ bd (10 ^ 30) 100 u ∧ bd (10 ^ 30) 100 v := by
  unfold isP at h
  split at h
  · rename_i a' b' c' d'
    rw [Bool.and_eq_true, Bool.and_eq_true] at h
    obtain ⟨h1, h2, h3⟩ := h
    obtain ⟨a1, b1, e, hb1, _, ha5, hb6⟩ := isF_eq h1
    obtain ⟨c1, e1, e', he1, _, hc5, he6⟩ := isF_eq h2
    cases e
    cases e'
    unfold pairOk at h3
    simp at h3
    have m30 : M30.toNat = 10 ^ 30 := by decide
    refine ⟨_, _, rfl, ⟨_, _, rfl, by omega, hb1, by omega⟩, ⟨_, _, rfl, by omega, he1, by omega⟩⟩
  · cases h
theorem flat_bd : ∀ {ts : List D}, ts.all isTape = true → ∀ r ∈ flatT ts, ∃ u v, r = .tup [u, v] ∧ bd (10 ^ 30) 100 u ∧ bd (10 ^ 30) 100 v
  | [], _, r, h => by cases h
  | t :: ts, h, r, hr => by
    rw [List.all_cons, Bool.and_eq_true] at h
    have h1 := h.1
    unfold isTape at h1
    split at h1
    · rename_i x y
      rw [Bool.and_eq_true] at h1
      rcases List.mem_cons.mp hr with rfl | hr
      · exact bdP h1.1
      · rcases List.mem_cons.mp hr with rfl | hr
        · exact bdP h1.2
        · exact flat_bd h.2 r hr
    · cases h1
theorem rim_bd {w : D} (h : isW w = true) : ∀ r ∈ rim w, ∃ u v, r = .tup [u, v] ∧ bd (10 ^ 30) 100 u ∧ bd (10 ^ 30) 100 v := by
  obtain ⟨ts, p, s, rfl, _, ht, hp, hs⟩ := isW_eq h
  intro r hr
  rcases List.mem_append.mp hr with hr | hr
  · exact flat_bd ht r hr
  · rcases List.mem_cons.mp hr with rfl | hr
    · exact bdP hp
    · rcases List.mem_cons.mp hr with rfl | hr
      · exact bdP hs
      · cases hr
theorem bd_ok {B E : Nat} {v : D} (h : bd B E v) (h1 : B ≤ 10 ^ 40) (h2 : E ≤ 10 ^ 40) : okD 0 1 v = true := by
  obtain ⟨x, y, rfl, hx, _, hy⟩ := h
  refine okD_tupI (by simp) ?_
  intro z hz
  simp only [List.mem_cons, List.not_mem_nil, or_false] at hz
  rcases hz with rfl | rfl
  · exact decide_eq_true (by omega)
  · exact decide_eq_true (by omega)
def meantB : List CS := [.asg (.nm 5) (.call 31 (.cons (.call 30 (.cons (.var 0) (.cons (.lst (.cons (.con (.int (0))) (.cons (.con (.int (1))) (.cons (.con (.int (1))) (.cons (.con (.int (2))) (.cons (.con (.int (3))) (.cons (.con (.int (4))) (.cons (.con (.int (4))) .nil)))))))) .nil)) []) (.cons (.con (.int (4))) .nil)) []),
    .asg (.nm 2) (.bin .add (.var 2) (.tup (.cons (.call 32 (.cons (.var 3) (.cons (.call 34 (.cons (.var 5) (.cons (.call 33 (.cons (.var 4) (.cons (.var 3) .nil)) []) .nil)) []) .nil)) []) .nil)))]
end
section
variable {n c : Nat} {M : Mem} {q : Int × Int}
theorem meantB_eq {w u v : D} {xs : List D} {u5 : Option D} (h : c < M.length) (hq : jok q) (hu : bd (10 ^ 30) 100 u) (hv : bd (10 ^ 30) 100 v) (hl : xs.length ≤ 10) : ∃ r a q', exs (callN gi.tab (n + 2)) meantB [some (.cell c), some w, some (.tup xs), some u, some v, u5] (mj M c q) = some (.nx, [some (.cell c), some w, some (.tup (xs ++ [r])), some u, some v, a], mj M c q') ∧ jok q' ∧ okD 0 1 r = true := by
  have s1 : 1 ≤ sizeLine := line1 1 (by decide)
  have s7 : 7 ≤ sizeLine := line1 7 (by decide)
  obtain ⟨p, q1, d1, k1, hp⟩ := any_of_eq (n := n) (M := M) (xs := [.int 0, .int 1, .int 1, .int 2, .int 3, .int 4, .int 4]) h hq (by simp) (by simp)
  obtain ⟨i, rfl, hi⟩ : ∃ i : Int, p = .int i ∧ i.natAbs ≤ 4 := by
    simp only [List.mem_cons, List.not_mem_nil, or_false] at hp
    rcases hp with rfl | rfl | rfl | rfl | rfl | rfl | rfl <;> exact ⟨_, rfl, by decide⟩
  have d2 := lawlow_eq (n + 1) i 4 (mj M c q1) (by decide) (by decide)
  have b2 : bd 4 4 (low i 4) := low_bd (by decide) hi (by decide)
  obtain ⟨s, d3, b3⟩ := sub_eq (n := n) (M := mj M c q1) hv hu (by decide) (by decide) (by decide) (by decide) (by decide)
  obtain ⟨m, d4, b4⟩ := mulF_eq (n := n) (M := mj M c q1) b2 b3 (by decide) (by decide) (by decide) (by decide) (by decide)
  obtain ⟨r, d5, b5⟩ := add_eq (n := n) (M := mj M c q1) hu b4 (by decide) (by decide) (by decide) (by decide) (by decide)
  have a1 : ∀ M : Mem, eOp M .add (.tup xs) (.tup [r]) = some (.tup (xs ++ [r])) := fun M => addT (by simp; omega)
  refine ⟨r, some (low i 4), q1, ?_, k1, bd_ok b5 (by decide) (by decide)⟩
  simp [meantB, s1, s7, d1, d2, d3, d4, d5, a1]
theorem meant_eq {w : D} (hw : isW w = true) (h : c < M.length) (hq : jok q) : ∃ v q', callN gi.tab (n + 3) 39 [.cell c, w] (mj M c q) = ok v (mj M c q') ∧ jok q' ∧ okD 0 5 v = true := by
  have s0 : 0 ≤ sizeLine := line1 0 (by decide)
  have hr := law_rim_eq (n := n + 1) (M := mj M c q) hw
  have hl := rim_len hw
  obtain ⟨e, M', h1, xs, u3, u4, u5, q2, rfl, rfl, k2, hxl, ho⟩ := forS_st (tg := .tp (.cons (.nm 3) (.cons (.nm 4) .nil))) (b := exs (callN gi.tab (n + 2)) meantB)
    (fun i e M' => ∃ xs u3 u4 u5 q2, e = [some (.cell c), some w, some (.tup xs), u3, u4, u5] ∧ M' = mj M c q2 ∧ jok q2 ∧ xs.length = i ∧ ∀ t ∈ xs, okD 0 1 t = true) 6
    (rim w) 0 [some (.cell c), some w, some (.tup []), none, none, none] (mj M c q) (by omega) ⟨[], _, _, _, _, rfl, rfl, hq, rfl, by intro t ht; cases ht⟩ (by
      intro x hx i e M' hi2 hi
      obtain ⟨xs, u3, u4, u5, q2, rfl, rfl, k2, hl, ho⟩ := hi
      obtain ⟨u, v, rfl, hu, hv⟩ := rim_bd hw x hx
      obtain ⟨r, a, q3, h1, k3, h2⟩ := meantB_eq (n := n) (M := M) (w := w) (xs := xs) (u5 := u5) h k2 hu hv (by omega)
      refine ⟨_, _, _, rfl, h1, xs ++ [r], _, _, _, q3, rfl, rfl, k3, by simp [hl], ?_⟩
      intro y hy
      rcases List.mem_append.mp hy with hy | hy
      · exact ho y hy
      · simp only [List.mem_cons, List.not_mem_nil, or_false] at hy
        subst hy; exact h2)
  refine ⟨.tup xs, q2, ?_, k2, okD_tupI (by omega) fun x hx => okD_mono (Nat.le_refl _) (by omega) (ho x hx)⟩
  refine call_exL (fd := f__law_meant.fd) rfl rfl (by rw [mj_len, mj_len]) ⟨[some (.cell c), some w, some (.tup xs), u3, u4, u5], ?_⟩
  show exs _ b__law_meant [some (.cell c), some w, none, none, none, none] (mj M c q) = _
  unfold meantB at h1
  simp [b__law_meant, s0, hr, h1]
end
end KK
end Rf
end T_K01Ni
section T_K01Nj
set_option Elab.async false
set_option linter.all false
set_option maxRecDepth 100000
set_option maxHeartbeats 4000000
namespace Rf
namespace KK
open PySem L2
@[simp] theorem ex_setD {cl : Calls} {o i e : CE} {env : Env} {M : Mem} : ex cl (.setD o i e) env M = (ev cl e env M).to env fun v M => (ev cl o env M).to env fun x M => (ev cl i env M).to env fun y M => match eSetD M x y v with
    | some M => some (.nx, env, M)
    | none => none := rfl
@[simp] theorem ex_setDs {cl : Calls} {ts ks : CEs} {e : CE} {env : Env} {M : Mem} : ex cl (.setDs ts ks e) env M = (ev cl e env M).to env fun x M => match x with
    | .tup vs => if vs.length = ts.len then setDsS cl ts ks vs env M else none
    | _ => none := rfl
theorem look_ne {k q : Key} {ks : List Key} {v : D} {xs : List D} (h : decide (k = q) = false) : lookD (k :: ks) (v :: xs) q = lookD ks xs q := by
  unfold lookD
  rw [List.zip_cons_cons, List.find?_cons]
  simp only [h]
theorem look_eq {k q : Key} {ks : List Key} {v : D} {xs : List D} (h : decide (k = q) = true) : lookD (k :: ks) (v :: xs) q = some v := by
  unfold lookD
  rw [List.zip_cons_cons, List.find?_cons]
  simp only [h]
  rfl
section
variable {p a b r : Str} {t m l : Int} {M : Mem}
def K2 : List Key := [.inr "cut", .inr "outer"]
def V2 (p a b r : Str) (t m l : Int) : List D := [.tup [.str "cut", .str p, .int t, .int m], .tup [.str "outer", .str p, .str a, .int l]]
def K3 : List Key := [.inr "cut", .inr "outer", .inr "inner"]
def V3 (p a b r : Str) (t m l : Int) : List D := [.tup [.str "cut", .str p, .int t, .int m], .tup [.str "outer", .str p, .str a, .int l], .tup [.str "inner", .str p, .str a, .int l]]
def K4 : List Key := [.inr "cut", .inr "outer", .inr "inner", .inr "half"]
def V4 (p a b r : Str) (t m l : Int) : List D := [.tup [.str "cut", .str p, .int t, .int m], .tup [.str "outer", .str p, .str a, .int l], .tup [.str "inner", .str p, .str a, .int l], .tup [.str "half", .str p, .str a]]
def K5 : List Key := [.inr "cut", .inr "outer", .inr "inner", .inr "half", .inr "split"]
def V5 (p a b r : Str) (t m l : Int) : List D := [.tup [.str "cut", .str p, .int t, .int m], .tup [.str "outer", .str p, .str a, .int l], .tup [.str "inner", .str p, .str a, .int l], .tup [.str "half", .str p, .str a], .tup [.str "split", .str p, .str r, .str a, .int t, .int m]]
def K6 : List Key := [.inr "cut", .inr "outer", .inr "inner", .inr "half", .inr "split", .inr "join"]
def V6 (p a b r : Str) (t m l : Int) : List D := [.tup [.str "cut", .str p, .int t, .int m], .tup [.str "outer", .str p, .str a, .int l], .tup [.str "inner", .str p, .str a, .int l], .tup [.str "half", .str p, .str a], .tup [.str "split", .str p, .str r, .str a, .int t, .int m], .tup [.str "join", .str p, .str a, .str b]]
def K7 : List Key := [.inr "cut", .inr "outer", .inr "inner", .inr "half", .inr "split", .inr "join", .inr "again"]
def V7 (p a b r : Str) (t m l : Int) : List D := [.tup [.str "cut", .str p, .int t, .int m], .tup [.str "outer", .str p, .str a, .int l], .tup [.str "inner", .str p, .str a, .int l], .tup [.str "half", .str p, .str a], .tup [.str "split", .str p, .str r, .str a, .int t, .int m], .tup [.str "join", .str p, .str a, .str b], .tup [.str "again", .str p, .int t]]
def K8 : List Key := [.inr "cut", .inr "outer", .inr "inner", .inr "half", .inr "split", .inr "join", .inr "again", .inr "hold"]
def V8 (p a b r : Str) (t m l : Int) : List D := [.tup [.str "cut", .str p, .int t, .int m], .tup [.str "outer", .str p, .str a, .int l], .tup [.str "inner", .str p, .str a, .int l], .tup [.str "half", .str p, .str a], .tup [.str "split", .str p, .str r, .str a, .int t, .int m], .tup [.str "join", .str p, .str a, .str b], .tup [.str "again", .str p, .int t], .tup [.str "hold", .str a, .str b]]
def K9 : List Key := [.inr "cut", .inr "outer", .inr "inner", .inr "half", .inr "split", .inr "join", .inr "again", .inr "hold", .inr "read"]
def V9 (p a b r : Str) (t m l : Int) : List D := [.tup [.str "cut", .str p, .int t, .int m], .tup [.str "outer", .str p, .str a, .int l], .tup [.str "inner", .str p, .str a, .int l], .tup [.str "half", .str p, .str a], .tup [.str "split", .str p, .str r, .str a, .int t, .int m], .tup [.str "join", .str p, .str a, .str b], .tup [.str "again", .str p, .int t], .tup [.str "hold", .str a, .str b], .tup [.str "read", .str a, .int t]]
theorem set2 : eSetD (M ++ [.dic K2 (V2 p a b r t m l)]) (.cell M.length) (.str "inner") (.tup [.str "inner", .str p, .str a, .int l]) = some (M ++ [.dic K3 (V3 p a b r t m l)]) := setD_new (q := .inr "inner") rfl (by decide +kernel) (by decide) rfl
theorem set3 : eSetD (M ++ [.dic K3 (V3 p a b r t m l)]) (.cell M.length) (.str "half") (.tup [.str "half", .str p, .str a]) = some (M ++ [.dic K4 (V4 p a b r t m l)]) := setD_new (q := .inr "half") rfl (by decide +kernel) (by decide) rfl
theorem set4 : eSetD (M ++ [.dic K4 (V4 p a b r t m l)]) (.cell M.length) (.str "split") (.tup [.str "split", .str p, .str r, .str a, .int t, .int m]) = some (M ++ [.dic K5 (V5 p a b r t m l)]) := setD_new (q := .inr "split") rfl (by decide +kernel) (by decide) rfl
theorem set5 : eSetD (M ++ [.dic K5 (V5 p a b r t m l)]) (.cell M.length) (.str "join") (.tup [.str "join", .str p, .str a, .str b]) = some (M ++ [.dic K6 (V6 p a b r t m l)]) := setD_new (q := .inr "join") rfl (by decide +kernel) (by decide) rfl
theorem set6 : eSetD (M ++ [.dic K6 (V6 p a b r t m l)]) (.cell M.length) (.str "again") (.tup [.str "again", .str p, .int t]) = some (M ++ [.dic K7 (V7 p a b r t m l)]) := setD_new (q := .inr "again") rfl (by decide +kernel) (by decide) rfl
theorem set7 : eSetD (M ++ [.dic K7 (V7 p a b r t m l)]) (.cell M.length) (.str "hold") (.tup [.str "hold", .str a, .str b]) = some (M ++ [.dic K8 (V8 p a b r t m l)]) := setD_new (q := .inr "hold") rfl (by decide +kernel) (by decide) rfl
theorem set8 : eSetD (M ++ [.dic K8 (V8 p a b r t m l)]) (.cell M.length) (.str "read") (.tup [.str "read", .str a, .int t]) = some (M ++ [.dic K9 (V9 p a b r t m l)]) := setD_new (q := .inr "read") rfl (by decide +kernel) (by decide) rfl
theorem look_cut : lookD K9 (V9 p a b r t m l) (.inr "cut") = some (.tup [.str "cut", .str p, .int t, .int m]) := by
  unfold K9 V9
  exact look_eq (by decide +kernel)
theorem look_outer : lookD K9 (V9 p a b r t m l) (.inr "outer") = some (.tup [.str "outer", .str p, .str a, .int l]) := by
  unfold K9 V9
  rw [look_ne (by decide +kernel)]
  exact look_eq (by decide +kernel)
theorem look_inner : lookD K9 (V9 p a b r t m l) (.inr "inner") = some (.tup [.str "inner", .str p, .str a, .int l]) := by
  unfold K9 V9
  rw [look_ne (by decide +kernel), look_ne (by decide +kernel)]
  exact look_eq (by decide +kernel)
theorem look_half : lookD K9 (V9 p a b r t m l) (.inr "half") = some (.tup [.str "half", .str p, .str a]) := by
  unfold K9 V9
  rw [look_ne (by decide +kernel), look_ne (by decide +kernel), look_ne (by decide +kernel)]
  exact look_eq (by decide +kernel)
theorem look_split : lookD K9 (V9 p a b r t m l) (.inr "split") = some (.tup [.str "split", .str p, .str r, .str a, .int t, .int m]) := by
  unfold K9 V9
  rw [look_ne (by decide +kernel), look_ne (by decide +kernel), look_ne (by decide +kernel), look_ne (by decide +kernel)]
  exact look_eq (by decide +kernel)
theorem look_join : lookD K9 (V9 p a b r t m l) (.inr "join") = some (.tup [.str "join", .str p, .str a, .str b]) := by
  unfold K9 V9
  rw [look_ne (by decide +kernel), look_ne (by decide +kernel), look_ne (by decide +kernel), look_ne (by decide +kernel), look_ne (by decide +kernel)]
  exact look_eq (by decide +kernel)
theorem look_again : lookD K9 (V9 p a b r t m l) (.inr "again") = some (.tup [.str "again", .str p, .int t]) := by
  unfold K9 V9
  rw [look_ne (by decide +kernel), look_ne (by decide +kernel), look_ne (by decide +kernel), look_ne (by decide +kernel), look_ne (by decide +kernel), look_ne (by decide +kernel)]
  exact look_eq (by decide +kernel)
theorem look_hold : lookD K9 (V9 p a b r t m l) (.inr "hold") = some (.tup [.str "hold", .str a, .str b]) := by
  unfold K9 V9
  rw [look_ne (by decide +kernel), look_ne (by decide +kernel), look_ne (by decide +kernel), look_ne (by decide +kernel), look_ne (by decide +kernel), look_ne (by decide +kernel), look_ne (by decide +kernel)]
  exact look_eq (by decide +kernel)
theorem look_read : lookD K9 (V9 p a b r t m l) (.inr "read") = some (.tup [.str "read", .str a, .int t]) := by
  unfold K9 V9
  rw [look_ne (by decide +kernel), look_ne (by decide +kernel), look_ne (by decide +kernel), look_ne (by decide +kernel), look_ne (by decide +kernel), look_ne (by decide +kernel), look_ne (by decide +kernel), look_ne (by decide +kernel)]
  exact look_eq (by decide +kernel)
theorem merge2 {x y : D} : mergeD (K2.zip [x, y]) = (K2, [x, y]) := by
  unfold K2
  have n1 : ¬ ("outer" : Str) = "cut" := by decide +kernel
  have m1 : ¬ ("cut" : Str) = "outer" := by decide +kernel
  simp [mergeD, putD, n1, m1]
end
end KK
end Rf
end T_K01Nj
section T_K01Nk
set_option Elab.async false
set_option linter.all false
set_option maxRecDepth 100000
set_option maxHeartbeats 4000000
namespace Rf
namespace KK
open PySem L2
section
variable {p a b r : Str} {t m l : Int} {M : Mem}
def dpPre : List CS := b__law_plain.take 4
def dpDict : List CS := (b__law_plain.drop 4).take 6
def dpPost : List CS := b__law_plain.drop 10
theorem dp_split : b__law_plain = dpPre ++ (dpDict ++ dpPost) := rfl
theorem dict_st {cl : Calls} {e0 e1 e2 e3 e11 : Option D} : exs cl dpDict [e0, e1, e2, e3, some (.int t), some (.int m), some (.str p), some (.str a), some (.str b), some (.int l), some (.str r), e11] M
    = some (.nx, [e0, e1, e2, e3, some (.int t), some (.int m), some (.str p), some (.str a), some (.str b), some (.int l), some (.str r), some (.cell M.length)], M ++ [.dic K9 (V9 p a b r t m l)]) := by
  have s2 : 2 ≤ sizeLine := line1 2 (by decide)
  have s3 : 3 ≤ sizeLine := line1 3 (by decide)
  have s4 : 4 ≤ sizeLine := line1 4 (by decide)
  have s6 : 6 ≤ sizeLine := line1 6 (by decide)
  have hd : dpDict = [.asg (.nm 11) (.dicM [.inr "cut", .inr "outer"] (.cons (.tup (.cons (.con (.str "cut")) (.cons (.var 6) (.cons (.var 4) (.cons (.var 5) .nil))))) (.cons (.tup (.cons (.con (.str "outer")) (.cons (.var 6) (.cons (.var 7) (.cons (.var 9) .nil))))) .nil))),
    .setDs (.cons (.var 11) (.cons (.var 11) .nil)) (.cons (.con (.str "inner")) (.cons (.con (.str "half")) .nil)) (.tup (.cons (.tup (.cons (.con (.str "inner")) (.cons (.var 6) (.cons (.var 7) (.cons (.var 9) .nil))))) (.cons (.tup (.cons (.con (.str "half")) (.cons (.var 6) (.cons (.var 7) .nil)))) .nil))),
    .setD (.var 11) (.con (.str "split")) (.tup (.cons (.con (.str "split")) (.cons (.var 6) (.cons (.var 10) (.cons (.var 7) (.cons (.var 4) (.cons (.var 5) .nil))))))),
    .setD (.var 11) (.con (.str "join")) (.tup (.cons (.con (.str "join")) (.cons (.var 6) (.cons (.var 7) (.cons (.var 8) .nil))))),
    .setDs (.cons (.var 11) (.cons (.var 11) .nil)) (.cons (.con (.str "again")) (.cons (.con (.str "hold")) .nil)) (.tup (.cons (.tup (.cons (.con (.str "again")) (.cons (.var 6) (.cons (.var 4) .nil)))) (.cons (.tup (.cons (.con (.str "hold")) (.cons (.var 7) (.cons (.var 8) .nil)))) .nil))),
    .setD (.var 11) (.con (.str "read")) (.tup (.cons (.con (.str "read")) (.cons (.var 7) (.cons (.var 4) .nil))))] := rfl
  have he : ∀ {u : Option D}, ev cl (.dicM [.inr "cut", .inr "outer"] (.cons (.tup (.cons (.con (.str "cut")) (.cons (.var 6) (.cons (.var 4) (.cons (.var 5) .nil))))) (.cons (.tup (.cons (.con (.str "outer")) (.cons (.var 6) (.cons (.var 7) (.cons (.var 9) .nil))))) .nil))) [e0, e1, e2, e3, some (.int t), some (.int m), some (.str p), some (.str a), some (.str b), some (.int l), some (.str r), u] M = ok (.cell M.length) (M ++ [.dic K2 (V2 p a b r t m l)]) := by
    intro u
    have hx : evs cl (.cons (.tup (.cons (.con (.str "cut")) (.cons (.var 6) (.cons (.var 4) (.cons (.var 5) .nil))))) (.cons (.tup (.cons (.con (.str "outer")) (.cons (.var 6) (.cons (.var 7) (.cons (.var 9) .nil))))) .nil)) [e0, e1, e2, e3, some (.int t), some (.int m), some (.str p), some (.str a), some (.str b), some (.int l), some (.str r), u] M = ok (V2 p a b r t m l) M := by
      unfold V2
      simp [s4]
    show (evs cl _ _ M).bind _ = _
    rw [hx]
    simp only [s_bind_ok]
    rw [if_pos ⟨rfl, by decide, rfl⟩]
    have hmm : mergeD (K2.zip (V2 p a b r t m l)) = (K2, V2 p a b r t m l) := merge2
    show ok (D.cell M.length) (M ++ [.dic (mergeD (K2.zip (V2 p a b r t m l))).1 (mergeD (K2.zip (V2 p a b r t m l))).2]) = _
    rw [hmm]
  have h2 := set2 (p := p) (a := a) (b := b) (r := r) (t := t) (m := m) (l := l) (M := M)
  have h3 := set3 (p := p) (a := a) (b := b) (r := r) (t := t) (m := m) (l := l) (M := M)
  have h4 := set4 (p := p) (a := a) (b := b) (r := r) (t := t) (m := m) (l := l) (M := M)
  have h5 := set5 (p := p) (a := a) (b := b) (r := r) (t := t) (m := m) (l := l) (M := M)
  have h6 := set6 (p := p) (a := a) (b := b) (r := r) (t := t) (m := m) (l := l) (M := M)
  have h7 := set7 (p := p) (a := a) (b := b) (r := r) (t := t) (m := m) (l := l) (M := M)
  have h8 := set8 (p := p) (a := a) (b := b) (r := r) (t := t) (m := m) (l := l) (M := M)
  rw [hd]
  simp [he, s2, s3, s4, s6, setDsS, CEs.len, h2, h3, h4, h5, h6, h7, h8]
end
end KK
end Rf
end T_K01Nk
section T_K01Nl
set_option Elab.async false
set_option linter.all false
set_option maxRecDepth 100000
set_option maxHeartbeats 4000000
namespace Rf
namespace KK
open PySem L2
def isN4 : D → Bool
  | .str s => decide (s = "a") || (decide (s = "b") || (decide (s = "c") || decide (s = "d")))
  | _ => false
theorem isN4_eq {x : D} (h : isN4 x = true) : ∃ s, x = .str s ∧ okD 0 0 x = true := by
  cases x <;> first | (cases h; done) | skip
  rename_i s
  refine ⟨s, rfl, ?_⟩
  have h : (decide (s = "a") || (decide (s = "b") || (decide (s = "c") || decide (s = "d")))) = true := h
  simp only [Bool.or_eq_true, decide_eq_true_eq] at h
  rcases h with rfl | rfl | rfl | rfl <;> decide +kernel
def four : List D := [.str "a", .str "b", .str "c", .str "d"]
theorem four_ok : ∀ x ∈ four, isN4 x = true := by
  have : four.all isN4 = true := by decide +kernel
  exact List.all_eq_true.mp this
def kindL : List D := [.str "cut", .str "outer", .str "inner", .str "half", .str "split", .str "join", .str "again", .str "hold", .str "read"]
section
variable {n c : Nat} {M : Mem} {q : Int × Int}
theorem name_eq {xs : List D} (h : c < M.length) (hq : jok q) (hs : ∀ x ∈ xs, isN4 x = true) (hl : xs.length ≤ 100) : ∃ s q', callN gi.tab (n + 3) 40 [.cell c, .lst xs] (mj M c q) = ok (.str s) (mj M c q') ∧ jok q' ∧ isN4 (.str s) = true := by
  have s4 : 4 ≤ sizeLine := line1 4 (by decide)
  have s0 : 0 ≤ sizeLine := line1 0 (by decide)
  have hc : Cmp (.lst xs) := okD_cmp (k := 80) (n := 1) (okD_lstI (by omega) fun x hx => by
    obtain ⟨s, _, ho⟩ := isN4_eq (hs x hx)
    exact okD_mono (by omega) (Nat.le_refl _) ho) (by omega)
  have hne : eCo .ne (.lst xs) (.lst []) = some (!xs.isEmpty) := by
    show (eEq (.lst xs) (.lst [])).map not = _
    rw [eEq_nil hc]; rfl
  have main : ∀ (ys : List D) (q1 : Int × Int) (g : Bool) (hg : ys ≠ []) (hyl : ys.length ≤ 100) (hy : ∀ x ∈ ys, isN4 x = true) (k1 : jok q1),
      (ev (callN gi.tab (n + 2)) (.and (.cmp .ne (.var 1) (.lst .nil)) (.cmp .gt (.call 29 (.cons (.var 0) (.cons (.con (.int (12))) .nil)) []) (.con (.int (0))))) [some (.cell c), some (.lst xs), none] (mj M c q) = ok (.bl g) (mj M c q1)) →
      (ys = if g = true then xs else four) → ∃ s q', callN gi.tab (n + 3) 40 [.cell c, .lst xs] (mj M c q) = ok (.str s) (mj M c q') ∧ jok q' ∧ isN4 (.str s) = true := by
    intro ys q1 g hg hyl hy k1 he hys
    obtain ⟨v, q2, d2, k2, hv⟩ := any_of_eq (n := n) (M := M) h k1 hg (by omega)
    have hv4 := hy v hv
    obtain ⟨s, rfl, _⟩ := isN4_eq hv4
    refine ⟨s, q2, ?_, k2, hv4⟩
    refine call_exL (fd := f__law_name.fd) rfl rfl (by rw [mj_len, mj_len]) ⟨[some (.cell c), some (.lst xs), some (.bl g)], ?_⟩
    show exs _ b__law_name [some (.cell c), some (.lst xs), none] (mj M c q) = _
    unfold four at hys
    cases g with
    | false =>
      rw [if_neg Bool.false_ne_true] at hys
      subst hys
      rw [show b__law_name = [.asg (.nm 2) (.and (.cmp .ne (.var 1) (.lst .nil)) (.cmp .gt (.call 29 (.cons (.var 0) (.cons (.con (.int (12))) .nil)) []) (.con (.int (0))))), .ret (.call 30 (.cons (.var 0) (.cons (.ite (.var 2) (.var 1) (.lst (.cons (.con (.str "a")) (.cons (.con (.str "b")) (.cons (.con (.str "c")) (.cons (.con (.str "d")) .nil)))))) .nil)) [])] from rfl]
      rw [exs_cons, ex_asg, he]
      simp [s4, d2]
    | true =>
      rw [if_pos rfl] at hys
      subst hys
      rw [show b__law_name = [.asg (.nm 2) (.and (.cmp .ne (.var 1) (.lst .nil)) (.cmp .gt (.call 29 (.cons (.var 0) (.cons (.con (.int (12))) .nil)) []) (.con (.int (0))))), .ret (.call 30 (.cons (.var 0) (.cons (.ite (.var 2) (.var 1) (.lst (.cons (.con (.str "a")) (.cons (.con (.str "b")) (.cons (.con (.str "c")) (.cons (.con (.str "d")) .nil)))))) .nil)) [])] from rfl]
      rw [exs_cons, ex_asg, he]
      simp [d2]
  cases xs with
  | nil =>
    refine main four q false (by decide) (by decide) four_ok hq ?_ rfl
    rw [show (!List.isEmpty ([] : List D)) = false from rfl] at hne
    simp [s0, hne]
  | cons x r =>
    rw [show (!(x :: r).isEmpty) = true from rfl] at hne
    obtain ⟨v, q1, d1, k1, _, _⟩ := dip_eq (n := n + 1) (M := M) (m := 12) h hq (by omega) (by omega)
    by_cases g : 0 < v
    · refine main (x :: r) q1 true (by simp) hl hs k1 ?_ rfl
      simp [s0, hne, d1, g]
    · refine main four q1 false (by decide) (by decide) four_ok k1 ?_ rfl
      simp [s0, hne, d1, g]
end
section
variable {p a b r : Str} {t m l : Int} {M : Mem}
def stepOk (v : D) : Prop := okD 0 1 v = true ∧ ∃ w x r, v = .tup (.str w :: .str x :: r) ∧ isN4 (.str x) = true
theorem V9_ok (hp : isN4 (.str p) = true) (ha : isN4 (.str a) = true) (hb : isN4 (.str b) = true) (hr : isN4 (.str r) = true) (ht : t.natAbs ≤ 100) (hm : m.natAbs ≤ 100) (hl : l.natAbs ≤ 100) : ∀ v ∈ V9 p a b r t m l, stepOk v := by
  have op := (isN4_eq hp).choose_spec.2
  have oa := (isN4_eq ha).choose_spec.2
  have ob := (isN4_eq hb).choose_spec.2
  have or' := (isN4_eq hr).choose_spec.2
  have ot : okD 0 0 (.int t) = true := decide_eq_true (by omega)
  have om : okD 0 0 (.int m) = true := decide_eq_true (by omega)
  have ol : okD 0 0 (.int l) = true := decide_eq_true (by omega)
  have w1 : okD 0 0 (.str "cut") = true := by decide +kernel
  have w2 : okD 0 0 (.str "outer") = true := by decide +kernel
  have w3 : okD 0 0 (.str "inner") = true := by decide +kernel
  have w4 : okD 0 0 (.str "half") = true := by decide +kernel
  have w5 : okD 0 0 (.str "split") = true := by decide +kernel
  have w6 : okD 0 0 (.str "join") = true := by decide +kernel
  have w7 : okD 0 0 (.str "again") = true := by decide +kernel
  have w8 : okD 0 0 (.str "hold") = true := by decide +kernel
  have w9 : okD 0 0 (.str "read") = true := by decide +kernel
  intro v hv
  have key : ∀ xs : List D, xs.all (okD 0 0) = true → xs.length ≤ 20 → okD 0 1 (.tup xs) = true := fun xs h1 h2 => okD_tupI h2 (List.all_eq_true.mp h1)
  unfold V9 at hv
  simp only [List.mem_cons, List.not_mem_nil, or_false] at hv
  rcases hv with rfl | rfl | rfl | rfl | rfl | rfl | rfl | rfl | rfl
  · exact ⟨key _ (by simp [op, ot, om, w1]) (by simp), _, _, _, rfl, hp⟩
  · exact ⟨key _ (by simp [op, oa, ol, w2]) (by simp), _, _, _, rfl, hp⟩
  · exact ⟨key _ (by simp [op, oa, ol, w3]) (by simp), _, _, _, rfl, hp⟩
  · exact ⟨key _ (by simp [op, oa, w4]) (by simp), _, _, _, rfl, hp⟩
  · exact ⟨key _ (by simp [op, oa, or', ot, om, w5]) (by simp), _, _, _, rfl, hp⟩
  · exact ⟨key _ (by simp [op, oa, ob, w6]) (by simp), _, _, _, rfl, hp⟩
  · exact ⟨key _ (by simp [op, ot, w7]) (by simp), _, _, _, rfl, hp⟩
  · exact ⟨key _ (by simp [oa, ob, w8]) (by simp), _, _, _, rfl, ha⟩
  · exact ⟨key _ (by simp [oa, ot, w9]) (by simp), _, _, _, rfl, ha⟩
theorem look_kind {k : D} (h : k ∈ kindL) : ∃ s v, k = .str s ∧ lookD K9 (V9 p a b r t m l) (.inr s) = some v ∧ v ∈ V9 p a b r t m l := by
  unfold kindL at h
  simp only [List.mem_cons, List.not_mem_nil, or_false] at h
  rcases h with rfl | rfl | rfl | rfl | rfl | rfl | rfl | rfl | rfl
  · exact ⟨_, _, rfl, look_cut, by simp [V9]⟩
  · exact ⟨_, _, rfl, look_outer, by simp [V9]⟩
  · exact ⟨_, _, rfl, look_inner, by simp [V9]⟩
  · exact ⟨_, _, rfl, look_half, by simp [V9]⟩
  · exact ⟨_, _, rfl, look_split, by simp [V9]⟩
  · exact ⟨_, _, rfl, look_join, by simp [V9]⟩
  · exact ⟨_, _, rfl, look_again, by simp [V9]⟩
  · exact ⟨_, _, rfl, look_hold, by simp [V9]⟩
  · exact ⟨_, _, rfl, look_read, by simp [V9]⟩
end
end KK
end Rf
end T_K01Nl
section T_K01Nm
set_option Elab.async false
set_option linter.all false
set_option maxRecDepth 100000
set_option maxHeartbeats 4000000
namespace Rf
namespace KK
open PySem L2
theorem lows_of {m : Nat} : ∀ {xs : List D}, (∀ x ∈ xs, x.low m = true) → D.lows m xs = true
  | [], _ => rfl
  | x :: xs, h => by
    show (x.low m && D.lows m xs) = true
    rw [h x (List.mem_cons_self ..), lows_of fun y hy => h y (List.mem_cons_of_mem _ hy)]; rfl
theorem okD_low {k m : Nat} : ∀ {n : Nat} {d : D}, okD k n d = true → d.low m = true := by
  intro n
  induction n with
  | zero => intro d h; cases d <;> first | rfl | (cases h)
  | succ n ih =>
    intro d h
    cases d with
    | tup xs =>
      obtain ⟨j, hj, _, hx⟩ := okD_tup h
      cases hj
      exact lows_of fun x hx' => ih (hx x hx')
    | lst xs =>
      obtain ⟨j, hj, _, hx⟩ := okD_lst h
      cases hj
      exact lows_of fun x hx' => ih (hx x hx')
    | dic => cases h
    | cell => cases h
    | scr => cases h
    | non => rfl
    | bl => rfl
    | int => rfl
    | str => rfl
theorem call_exT {T : Tab} {n f : Nat} {fd : Fd} {args : List D} {M M' X : Mem} {d : D} (h : T f = some fd) (ha : args.length = fd.arity) (hd : d.low M.length = true) (hl : M'.length = M.length)
    (hb : ∃ e, exs (callN T n) fd.body (args.map some ++ List.replicate (fd.slots - args.length) none) M = some (.ret d, e, M' ++ X)) : callN T (n + 1) f args M = ok d M' := by
  obtain ⟨e, hb⟩ := hb
  rw [call_ret h ha hb, leave_low hd, List.take_append_of_le_length (by omega), List.take_of_length_le (by omega)]
section
variable {n c : Nat} {M : Mem} {q : Int × Int}
theorem mj_app {X : Mem} (h : c < M.length) : mj M c q ++ X = mj (M ++ X) c q := by
  unfold mj
  rw [List.set_append_left _ _ h]
theorem pick_int {xs : List D} {v : D} (h : v ∈ xs) (hx : xs.all isI = true) : ∃ i, v = .int i := isI_eq (List.all_eq_true.mp hx v h)
theorem law_plain_eq {ts : List D} {p s : D} {xs ks : List D} (h : c < M.length) (hq : jok q) (hts : ts.length = 1 ∨ ts.length = 2) (hs : ∀ x ∈ xs, isN4 x = true) (hl : xs.length ≤ 100) (hk : ∀ x ∈ ks, x ∈ kindL) (hk0 : ks ≠ []) (hkl : ks.length ≤ 100) :
    ∃ v q', callN gi.tab (n + 4) 41 [.cell c, .tup [.tup ts, p, s], .lst xs, .lst ks] (mj M c q) = ok v (mj M c q') ∧ jok q' ∧ stepOk v := by
  have s0 : 0 ≤ sizeLine := line1 0 (by decide)
  have s2 : 2 ≤ sizeLine := line1 2 (by decide)
  have s4 : 4 ≤ sizeLine := line1 4 (by decide)
  obtain ⟨t, q1, d1, k1, t0, t1⟩ := dip_eq (n := n + 2) (M := M) (m := (ts.length : Int)) h hq (by omega) (by omega)
  obtain ⟨e, q2, d2, k2, he⟩ := any_of_eq (n := n + 1) (M := M) (xs := [.int 8, .int 18]) h k1 (by simp) (by simp)
  obtain ⟨e, rfl, he2⟩ : ∃ i : Int, e = .int i ∧ (i = 8 ∨ i = 18) := by
    simp only [List.mem_cons, List.not_mem_nil, or_false] at he
    rcases he with rfl | rfl
    · exact ⟨_, rfl, .inl rfl⟩
    · exact ⟨_, rfl, .inr rfl⟩
  obtain ⟨m, q3, d3, k3, m0, m1⟩ := dip_eq (n := n + 2) (M := M) (m := e) h k2 (by omega) (by omega)
  obtain ⟨pv, q4, d4, k4, hp⟩ := any_of_eq (n := n + 1) (M := M) (xs := four) h k3 (by decide) (by decide)
  have hp4 := four_ok pv hp
  obtain ⟨pc, rfl, po⟩ := isN4_eq hp4
  obtain ⟨a, q5, d5, k5, ha⟩ := name_eq (n := n) (M := M) h k4 hs hl
  obtain ⟨b, q6, d6, k6, hb⟩ := name_eq (n := n) (M := M) h k5 hs hl
  obtain ⟨f, q7, d7, k7, hf⟩ := any_of_eq (n := n + 1) (M := M) (xs := [.int 3, .int 20]) h k6 (by simp) (by simp)
  obtain ⟨f, rfl, hf2⟩ : ∃ i : Int, f = .int i ∧ (i = 3 ∨ i = 20) := by
    simp only [List.mem_cons, List.not_mem_nil, or_false] at hf
    rcases hf with rfl | rfl
    · exact ⟨_, rfl, .inl rfl⟩
    · exact ⟨_, rfl, .inr rfl⟩
  obtain ⟨l, q8, d8, k8, l0, l1⟩ := dip_eq (n := n + 2) (M := M) (m := f) h k7 (by omega) (by omega)
  obtain ⟨r, hr, hr4⟩ : ∃ r : Str, (if pc = "d" then (D.str "a") else .str "d") = .str r ∧ isN4 (.str r) = true := by
    by_cases g : pc = "d"
    · exact ⟨"a", if_pos g, by decide +kernel⟩
    · exact ⟨"d", if_neg g, by decide +kernel⟩
  have hne : eCo .ne (.str pc) (.str "d") = some (!decide (pc = "d")) := by
    show (eEq (.str pc) (.str "d")).map not = _
    rw [eEq_str (strOk_of po) (cmp_str (by decide +kernel))]; rfl
  have hpre : exs (callN gi.tab (n + 3)) dpPre [some (.cell c), some (.tup [.tup ts, p, s]), some (.lst xs), some (.lst ks), none, none, none, none, none, none, none, none] (mj M c q)
      = some (.nx, [some (.cell c), some (.tup [.tup ts, p, s]), some (.lst xs), some (.lst ks), some (.int t), some (.int (3 + m)), some (.str pc), some (.str a), some (.str b), some (.int (1 + l)), some (.str r), none], mj M c q8) := by
    rw [show dpPre = [.asg (.tp (.cons (.nm 4) (.cons (.nm 5) .nil))) (.tup (.cons (.call 29 (.cons (.var 0) (.cons (.bi .len (.cons (.idx (.var 1) (.con (.int (0)))) .nil)) .nil)) []) (.cons (.bin .add (.con (.int (3))) (.call 29 (.cons (.var 0) (.cons (.call 30 (.cons (.var 0) (.cons (.lst (.cons (.con (.int (8))) (.cons (.con (.int (18))) .nil))) .nil)) []) .nil)) [])) .nil))),
    .asg (.nm 6) (.call 30 (.cons (.var 0) (.cons (.lst (.cons (.con (.str "a")) (.cons (.con (.str "b")) (.cons (.con (.str "c")) (.cons (.con (.str "d")) .nil))))) .nil)) []),
    .asg (.tp (.cons (.nm 7) (.cons (.nm 8) .nil))) (.tup (.cons (.call 40 (.cons (.var 0) (.cons (.var 2) .nil)) []) (.cons (.call 40 (.cons (.var 0) (.cons (.var 2) .nil)) []) .nil))),
    .asg (.tp (.cons (.nm 9) (.cons (.nm 10) .nil))) (.tup (.cons (.bin .add (.con (.int (1))) (.call 29 (.cons (.var 0) (.cons (.call 30 (.cons (.var 0) (.cons (.lst (.cons (.con (.int (3))) (.cons (.con (.int (20))) .nil))) .nil)) []) .nil)) [])) (.cons (.ite (.cmp .ne (.var 6) (.con (.str "d"))) (.con (.str "d")) (.con (.str "a"))) .nil)))] from rfl]
    unfold four at d4
    by_cases g : pc = "d"
    · rw [if_pos g] at hr
      rw [decide_eq_true g] at hne
      cases hr
      simp [s2, s4, jdx0, d1, d2, d3, d4, d5, d6, d7, d8, hne]
    · rw [if_neg g] at hr
      rw [decide_eq_false g] at hne
      cases hr
      simp [s2, s4, jdx0, d1, d2, d3, d4, d5, d6, d7, d8, hne]
  have hX : c < (M ++ [Cell.dic K9 (V9 pc a b r t (3 + m) (1 + l))]).length := by simp; omega
  obtain ⟨kv, q9, d9, k9, hkv⟩ := any_of_eq (n := n + 1) (M := M ++ [.dic K9 (V9 pc a b r t (3 + m) (1 + l))]) (xs := ks) hX k8 hk0 (by omega)
  obtain ⟨sk, v, rfl, hlook, hv⟩ := look_kind (p := pc) (a := a) (b := b) (r := r) (t := t) (m := 3 + m) (l := 1 + l) (hk kv hkv)
  have hvo := V9_ok hp4 ha hb hr4 (t := t) (m := 3 + m) (l := 1 + l) (by omega) (by omega) (by omega) v hv
  refine ⟨v, q9, ?_, k9, hvo⟩
  have hcell : (mj M c q8 ++ [Cell.dic K9 (V9 pc a b r t (3 + m) (1 + l))])[M.length]? = some (.dic K9 (V9 pc a b r t (3 + m) (1 + l))) := by
    rw [List.getElem?_append_right (by rw [mj_len]; exact Nat.le_refl _), mj_len, Nat.sub_self]; rfl
  have hcell9 : (mj M c q9 ++ [Cell.dic K9 (V9 pc a b r t (3 + m) (1 + l))])[M.length]? = some (.dic K9 (V9 pc a b r t (3 + m) (1 + l))) := by
    rw [List.getElem?_append_right (by rw [mj_len]; exact Nat.le_refl _), mj_len, Nat.sub_self]; rfl
  have hrc : recv (mj M c q8 ++ [.dic K9 (V9 pc a b r t (3 + m) (1 + l))]) .get2 (.cell M.length) = some () := by
    unfold recv dicOf
    simp only [hcell]
    rfl
  have hget : eBi (mj M c q9 ++ [.dic K9 (V9 pc a b r t (3 + m) (1 + l))]) .get2 [.cell M.length, .str sk, .tup []] = some v := by
    show (eGet (mj M c q9 ++ [.dic K9 (V9 pc a b r t (3 + m) (1 + l))]) (.cell M.length) (.str sk)).map (fun o => o.getD (.tup [])) = _
    have : eGet (mj M c q9 ++ [.dic K9 (V9 pc a b r t (3 + m) (1 + l))]) (.cell M.length) (.str sk) = some (lookD K9 (V9 pc a b r t (3 + m) (1 + l)) (.inr sk)) := by
      unfold eGet dicOf
      simp only [hcell9]
      rfl
    rw [this, hlook]
    rfl
  rw [← mj_app h, ← mj_app h] at d9
  have hlow : v.low (mj M c q).length = true := okD_low hvo.1
  refine call_exT (fd := f__law_plain.fd) (M' := mj M c q9) (X := [.dic K9 (V9 pc a b r t (3 + m) (1 + l))]) rfl rfl hlow (by rw [mj_len, mj_len]) ⟨[some (.cell c), some (.tup [.tup ts, p, s]), some (.lst xs), some (.lst ks), some (.int t), some (.int (3 + m)), some (.str pc), some (.str a), some (.str b), some (.int (1 + l)), some (.str r), some (.cell M.length)], ?_⟩
  show exs _ b__law_plain [some (.cell c), some (.tup [.tup ts, p, s]), some (.lst xs), some (.lst ks), none, none, none, none, none, none, none, none] (mj M c q) = _
  rw [dp_split, exs_app, hpre, seq_nx, exs_app, dict_st, seq_nx, mj_len]
  rw [show dpPost = [.ret (.me .get2 (.var 11) (.cons (.call 30 (.cons (.var 0) (.cons (.var 3) .nil)) []) (.cons (.tup .nil) .nil)))] from rfl]
  have hme : ev (callN gi.tab (n + 3)) (.me .get2 (.var 11) (.cons (.call 30 (.cons (.var 0) (.cons (.var 3) .nil)) []) (.cons (.tup .nil) .nil))) [some (.cell c), some (.tup [.tup ts, p, s]), some (.lst xs), some (.lst ks), some (.int t), some (.int (3 + m)), some (.str pc), some (.str a), some (.str b), some (.int (1 + l)), some (.str r), some (.cell M.length)] (mj M c q8 ++ [.dic K9 (V9 pc a b r t (3 + m) (1 + l))])
      = ok v (mj M c q9 ++ [.dic K9 (V9 pc a b r t (3 + m) (1 + l))]) := by
    unfold ev
    simp [hrc, d9, s0, hget]
  simp [hme]
end
end KK
end Rf
end T_K01Nm
section T_K01Nn
set_option Elab.async false
set_option linter.all false
set_option maxRecDepth 100000
set_option maxHeartbeats 4000000
namespace Rf
namespace KK
open PySem L2
theorem eraseDups_len {α : Type} [BEq α] [LawfulBEq α] : ∀ (n : Nat) (l : List α), l.length ≤ n → l.eraseDups.length ≤ l.length
  | _, [], _ => by simp
  | 0, _ :: _, h => by simp at h
  | n + 1, a :: l, h => by
    rw [List.eraseDups_cons, List.length_cons, List.length_cons]
    have h1 := List.length_filter_le (fun b => !b == a) l
    have h2 := eraseDups_len n (l.filter fun b => !b == a) (by simp at h; omega)
    omega
theorem n4_strs : ∀ {xs : List D}, (∀ x ∈ xs, isN4 x = true) → ∃ l : List Str, xs = l.map .str
  | [], _ => ⟨[], rfl⟩
  | x :: xs, h => by
    obtain ⟨l, rfl⟩ := n4_strs fun y hy => h y (List.mem_cons_of_mem _ hy)
    obtain ⟨s, rfl, _⟩ := isN4_eq (h x (List.mem_cons_self ..))
    exact ⟨s :: l, rfl⟩
def hasFirst (x : D) : Prop := ∃ w r, x = .tup (.str w :: r)
section
variable {n c : Nat} {M : Mem} {q : Int × Int}
theorem sortSet_n4 {xs : List D} (h : ∀ x ∈ xs, isN4 x = true) (hl : xs.length ≤ 60) : ∃ ys, eBi M .sortSet [.lst xs] = some (.lst ys) ∧ (∀ x ∈ ys, isN4 x = true) ∧ ys.length ≤ xs.length := by
  obtain ⟨l, rfl⟩ := n4_strs h
  refine ⟨(sortS l.eraseDups).map .str, ?_, ?_, ?_⟩
  · show bSortSet [.lst (l.map .str)] = _
    unfold bSortSet
    simp only [strsOf_map]
    rw [List.length_map] at hl
    rw [if_pos (by omega)]
  · intro x hx
    obtain ⟨s, hs, rfl⟩ := List.mem_map.mp hx
    refine h _ (List.mem_map.mpr ⟨s, ?_, rfl⟩)
    exact List.mem_eraseDups.mp (List.mem_mergeSort.mp hs)
  · rw [List.length_map, List.length_map]
    show (List.mergeSort _ _).length ≤ _
    rw [List.length_mergeSort]
    exact eraseDups_len l.length l (Nat.le_refl _)
def sb2 : CS := .ite (.and (.cmp .eq (.idx (.var 7) (.con (.int (0)))) (.con (.str "read"))) (.cmp .ne (.lcIf (.var 10) (.nm 10) (.seq (.var 4)) (.cmp .eq (.idx (.var 10) (.con (.int (0)))) (.con (.str "read")))) (.lst .nil)))
    [.asg (.nm 7) (.tup (.cons (.con (.str "hold")) (.cons (.idx (.var 7) (.con (.int (1)))) (.cons (.call 40 (.cons (.var 0) (.cons (.var 5) .nil)) []) .nil))))]
    []
def sb3 : CS := .asg (.nm 5) (.bi .sortSet (.cons (.bin .add (.bin .add (.var 5) (.bin .mul (.lst (.cons (.con (.str "d")) .nil)) (.bi .int (.cons (.cmp .eq (.idx (.var 7) (.con (.int (0)))) (.con (.str "split"))) .nil)))) (.lst (.cons (.idx (.var 7) (.con (.int (1)))) .nil))) .nil))
def sb4 : CS := .ite (.and (.cmp .eq (.call 29 (.cons (.var 0) (.cons (.con (.int (7))) .nil)) []) (.con (.int (0)))) (.and (.cmp .lt (.bi .len (.cons (.var 4) .nil)) (.con (.int (4)))) (.cmp .ne (.idx (.var 7) (.con (.int (0)))) (.con (.str "read")))))
    [.asg (.nm 8) (.call 30 (.cons (.var 0) (.cons (.lst (.cons (.con (.str "longer")) (.cons (.con (.str "same")) (.cons (.con (.str "shorter")) .nil)))) .nil)) []),
    .asg (.nm 9) (.bin .mul (.tup (.cons (.tup (.cons (.con (.str "half")) (.cons (.con (.str "c")) (.cons (.con (.str "a")) .nil)))) .nil)) (.call 29 (.cons (.var 0) (.cons (.con (.int (2))) .nil)) [])),
    .asg (.nm 7) (.tup (.cons (.con (.str "if")) (.cons (.call 40 (.cons (.var 0) (.cons (.var 5) .nil)) []) (.cons (.con (.str "a")) (.cons (.var 8) (.cons (.tup (.cons (.var 7) .nil)) (.cons (.var 9) .nil)))))))]
    []
theorem stepOk_hold {x y : Str} (hx : isN4 (.str x) = true) (hy : isN4 (.str y) = true) : stepOk (.tup [.str "hold", .str x, .str y]) := by
  have w8 : okD 0 0 (.str "hold") = true := by decide +kernel
  have ox := (isN4_eq hx).choose_spec.2
  have oy := (isN4_eq hy).choose_spec.2
  exact ⟨okD_tupI (by simp) (List.all_eq_true.mp (by simp [w8, ox, oy])), _, _, _, rfl, hx⟩
theorem okStr {k n : Nat} {w : Str} {xs : List D} (h : okD k (n + 1) (.tup (.str w :: xs)) = true) : Cmp (.str w) := by
  obtain ⟨j, _, _, hx⟩ := okD_tup h
  exact strOk_of (hx (.str w) (by simp))
theorem sb2_eq {u1 u2 u3 u6 u8 u9 u10 : Option D} {fs xs : List D} {v : D} (h : c < M.length) (hq : jok q) (hf : ∀ x ∈ fs, okD 0 3 x = true ∧ hasFirst x) (hfl : fs.length ≤ 20) (hx : ∀ x ∈ xs, isN4 x = true) (hxl : xs.length ≤ 60) (hv : stepOk v) :
    ∃ v' q', ex (callN gi.tab (n + 4)) sb2 [some (.cell c), u1, u2, u3, some (.tup fs), some (.lst xs), u6, some v, u8, u9, u10] (mj M c q) = some (.nx, [some (.cell c), u1, u2, u3, some (.tup fs), some (.lst xs), u6, some v', u8, u9, u10], mj M c q') ∧ jok q' ∧ stepOk v' := by
  have s0 : 0 ≤ sizeLine := line1 0 (by decide)
  have s3 : 3 ≤ sizeLine := line1 3 (by decide)
  obtain ⟨ho, w, x, r, rfl, hx4⟩ := hv
  have cw := okStr ho
  have e1 : eCo .eq (.str w) (.str "read") = some (decide (w = "read")) := eEq_str cw (cmp_str (by decide +kernel))
  have hlc := ev_lcIf_of (cl := callN gi.tab (n + 4)) (env := [some (.cell c), u1, u2, u3, some (.tup fs), some (.lst xs), u6, some (.tup (.str w :: .str x :: r)), u8, u9, u10]) (M := mj M c q) (e := .var 10) (i := 10) (it := .seq (.var 4))
      (c := .cmp .eq (.idx (.var 10) (.con (.int (0)))) (.con (.str "read"))) (xs := fs) (fun z => decide (firstS z = ("read" : Str))) (by simp) (sz (by omega))
      (by
        intro z hz
        obtain ⟨oz, w', r', rfl⟩ := hf z hz
        have e2 : eCo .eq (.str w') (.str "read") = some (decide (w' = "read")) := eEq_str (okStr oz) (cmp_str (by decide +kernel))
        simp [iq0, e2, firstS]
        try rfl)
      (by intro z hz _; simp)
  have hq2 : eCo .ne (.lst (fs.filter fun z => decide (firstS z = ("read" : Str)))) (.lst []) = some (!(fs.filter fun z => decide (firstS z = ("read" : Str))).isEmpty) := by
    show (eEq (.lst (fs.filter fun z => decide (firstS z = ("read" : Str)))) (.lst [])).map not = _
    rw [eEq_nil]
    · rfl
    · refine okD_cmp (k := 0) (n := 4) (okD_lstI ?_ fun z hz => (hf z (List.mem_filter.mp hz).1).1) (by omega)
      have := List.length_filter_le (fun z => decide (firstS z = ("read" : Str))) fs
      omega
  unfold sb2
  by_cases g : w = "read"
  · rw [decide_eq_true g] at e1
    cases g2 : (fs.filter fun z => decide (firstS z = ("read" : Str))).isEmpty with
    | true =>
      rw [g2] at hq2
      refine ⟨.tup (.str w :: .str x :: r), q, ?_, hq, ho, w, x, r, rfl, hx4⟩
      simp [iq0, e1, hlc, hq2, s0]
    | false =>
      rw [g2] at hq2
      obtain ⟨a, q1, d1, k1, ha⟩ := name_eq (n := n + 1) (M := M) (xs := xs) h hq hx (by omega)
      refine ⟨.tup [.str "hold", .str x, .str a], q1, ?_, k1, stepOk_hold hx4 ha⟩
      simp [iq0, iq1, e1, hlc, hq2, s0, d1, s3]
  · rw [decide_eq_false g] at e1
    refine ⟨.tup (.str w :: .str x :: r), q, ?_, hq, ho, w, x, r, rfl, hx4⟩
    simp [iq0, e1]
end
end KK
end Rf
end T_K01Nn
section T_K01No
set_option Elab.async false
set_option linter.all false
set_option maxRecDepth 100000
set_option maxHeartbeats 4000000
namespace Rf
namespace KK
open PySem L2
section
variable {n c : Nat} {M : Mem} {q : Int × Int}
theorem mulL {b : Bool} {x : D} {M : Mem} : eOp M .mul (.lst [x]) (.int (if b = true then 1 else 0)) = some (.lst (if b = true then [x] else [])) := by
  cases b
  · show (if (0 : Int) ≤ 0 ∧ (0 : Int) < 2 ^ 63 ∧ 1 * 0 ≤ sizeLine then some (D.lst (rep 0 [x])) else none) = _
    rw [if_pos ⟨by decide, by decide, line1 0 (by decide)⟩]
    rfl
  · show (if (0 : Int) ≤ 1 ∧ (1 : Int) < 2 ^ 63 ∧ 1 * 1 ≤ sizeLine then some (D.lst (rep 1 [x])) else none) = _
    rw [if_pos ⟨by decide, by decide, line1 1 (by decide)⟩]
    rfl
theorem mulT {x : D} {k : Int} {M : Mem} (h0 : 0 ≤ k) (h1 : k ≤ 1000) : eOp M .mul (.tup [x]) (.int k) = some (.tup (rep k.toNat [x])) := by
  show (if [x] ≠ [] ∧ 0 ≤ k ∧ k ≤ 1000 ∧ [x].length ≤ 1000 then _ else _) = _
  rw [if_pos ⟨by simp, h0, h1, by simp⟩]
theorem rep_one {x : D} : ∀ k : Nat, rep k [x] = List.replicate k x
  | 0 => rfl
  | k + 1 => by
    have := rep_one (x := x) k
    unfold rep at this ⊢
    rw [List.replicate_succ, List.replicate_succ, List.flatten_cons, this]; rfl
theorem sb3_eq {u1 u2 u3 u4 u6 u8 u9 u10 : Option D} {xs : List D} {v : D} {cl : Calls} (hx : ∀ x ∈ xs, isN4 x = true) (hxl : xs.length ≤ 50) (hv : stepOk v) :
    ∃ ys, ex cl sb3 [some (.cell c), u1, u2, u3, u4, some (.lst xs), u6, some v, u8, u9, u10] M = some (.nx, [some (.cell c), u1, u2, u3, u4, some (.lst ys), u6, some v, u8, u9, u10], M) ∧ (∀ x ∈ ys, isN4 x = true) ∧ ys.length ≤ xs.length + 2 := by
  obtain ⟨ho, w, x, r, rfl, hx4⟩ := hv
  have s1 : 1 ≤ sizeLine := line1 1 (by decide)
  have cw := okStr ho
  have e1 : eCo .eq (.str w) (.str "split") = some (decide (w = "split")) := eEq_str cw (cmp_str (by decide +kernel))
  generalize decide (w = ("split" : Str)) = b at e1
  have bi : eBi M .int [.bl b] = some (.int (if b = true then 1 else 0)) := rfl
  have hd4 : isN4 (.str "d") = true := by decide +kernel
  have a1 : eOp M .add (.lst xs) (.lst (if b = true then [.str "d"] else [])) = some (.lst (xs ++ if b = true then [.str "d"] else [])) := addL (by split <;> simp <;> omega)
  have a2 : eOp M .add (.lst (xs ++ if b = true then [.str "d"] else [])) (.lst [.str x]) = some (.lst ((xs ++ if b = true then [.str "d"] else []) ++ [.str x])) := addL (by split <;> simp <;> omega)
  obtain ⟨ys, h1, h2, h3⟩ := sortSet_n4 (M := M) (xs := (xs ++ if b = true then [.str "d"] else []) ++ [.str x]) (by
    intro y hy
    rcases List.mem_append.mp hy with hy | hy
    · rcases List.mem_append.mp hy with hy | hy
      · exact hx y hy
      · split at hy
        · simp only [List.mem_cons, List.not_mem_nil, or_false] at hy
          subst hy; exact hd4
        · cases hy
    · simp only [List.mem_cons, List.not_mem_nil, or_false] at hy
      subst hy; exact hx4) (by split <;> simp <;> omega)
  refine ⟨ys, ?_, h2, Nat.le_trans h3 (by split <;> simp)⟩
  unfold sb3
  simp only [ex_asg, ev_bi, evs_cons, evs_nil, ev_bin, ev_var, s_get0, s_getS, s_bind_ok, ev_lst, List.length_cons, List.length_nil, Nat.zero_add, if_pos s1, ev_con, ev_cmp, ev_idx, iq0, iq1, s_lift, e1, Option.map_some, bi, mulL, a1, a2, h1, s_to_ok, asT_nm, List.set_cons_succ, List.set_cons_zero]
theorem sb4_eq {u1 u2 u3 u6 u8 u9 u10 : Option D} {fs xs : List D} {v : D} (h : c < M.length) (hq : jok q) (hx : ∀ x ∈ xs, isN4 x = true) (hxl : xs.length ≤ 60) (hv : stepOk v) :
    ∃ v' a8 a9 q', ex (callN gi.tab (n + 4)) sb4 [some (.cell c), u1, u2, u3, some (.tup fs), some (.lst xs), u6, some v, u8, u9, u10] (mj M c q) = some (.nx, [some (.cell c), u1, u2, u3, some (.tup fs), some (.lst xs), u6, some v', a8, a9, u10], mj M c q') ∧ jok q' ∧ okD 0 3 v' = true ∧ hasFirst v' := by
  have s1 : 1 ≤ sizeLine := line1 1 (by decide)
  have s3 : 3 ≤ sizeLine := line1 3 (by decide)
  have s6 : 6 ≤ sizeLine := line1 6 (by decide)
  obtain ⟨ho, w, x, r, rfl, hx4⟩ := hv
  have cw := okStr ho
  have e1 : eCo .ne (.str w) (.str "read") = some (!decide (w = "read")) := by
    show (eEq (.str w) (.str "read")).map not = _
    rw [eEq_str cw (cmp_str (by decide +kernel))]; rfl
  generalize decide (w = ("read" : Str)) = b at e1
  obtain ⟨z, q1, d1, k1, _, _⟩ := dip_eq (n := n + 3) (M := M) (m := 7) h hq (by omega) (by omega)
  have keep : okD 0 3 (.tup (.str w :: .str x :: r)) = true := okD_mono (Nat.le_refl _) (by omega) ho
  unfold sb4
  by_cases g1 : z = 0
  · by_cases g2 : (fs.length : Int) < 4
    · cases b with
      | true =>
        refine ⟨.tup (.str w :: .str x :: r), u8, u9, q1, ?_, k1, keep, _, _, rfl⟩
        simp [d1, g1, g2, iq0, e1]
      | false =>
        obtain ⟨sn, q2, d2, k2, hs⟩ := any_of_eq (n := n + 2) (M := M) (xs := [.str "longer", .str "same", .str "shorter"]) h k1 (by simp) (by simp)
        obtain ⟨o, q3, d3, k3, o0, o1⟩ := dip_eq (n := n + 3) (M := M) (m := 2) h k2 (by omega) (by omega)
        obtain ⟨a, q4, d4, k4, ha⟩ := name_eq (n := n + 1) (M := M) (xs := xs) h k3 hx (by omega)
        have m1 : ∀ (y : D) (M : Mem), eOp M .mul (.tup [y]) (.int o) = some (.tup (rep o.toNat [y])) := fun y M => mulT o0 (by omega)
        refine ⟨.tup [.str "if", .str a, .str "a", sn, .tup [.tup (.str w :: .str x :: r)], .tup (rep o.toNat [.tup [.str "half", .str "c", .str "a"]])], some sn, some (.tup (rep o.toNat [.tup [.str "half", .str "c", .str "a"]])), q4, ?_, k4, ?_, _, _, rfl⟩
        · simp [d1, g1, g2, iq0, e1, s1, s3, s6, d2, d3, d4, m1]
        · have w1 : okD 0 0 (.str "if") = true := by decide +kernel
          have w2 : okD 0 0 (.str "a") = true := by decide +kernel
          have oh : okD 0 1 (.tup [.str "half", .str "c", .str "a"]) = true := by decide +kernel
          have oa := (isN4_eq ha).choose_spec.2
          have os : okD 0 0 sn = true := by
            simp only [List.mem_cons, List.not_mem_nil, or_false] at hs
            rcases hs with rfl | rfl | rfl <;> decide +kernel
          refine okD_tupI (by simp) ?_
          intro y hy
          simp only [List.mem_cons, List.not_mem_nil, or_false] at hy
          rcases hy with rfl | rfl | rfl | rfl | rfl | rfl
          · exact okD_mono (Nat.le_refl _) (by omega) w1
          · exact okD_mono (Nat.le_refl _) (by omega) oa
          · exact okD_mono (Nat.le_refl _) (by omega) w2
          · exact okD_mono (Nat.le_refl _) (by omega) os
          · refine okD_tupI (by simp) ?_
            intro y hy
            simp only [List.mem_cons, List.not_mem_nil, or_false] at hy
            subst hy; exact ho
          · rw [rep_one]
            refine okD_tupI (by rw [List.length_replicate]; omega) ?_
            intro y hy
            rw [List.eq_of_mem_replicate hy]; exact oh
    · refine ⟨.tup (.str w :: .str x :: r), u8, u9, q1, ?_, k1, keep, _, _, rfl⟩
      simp [d1, g1, g2]
  · refine ⟨.tup (.str w :: .str x :: r), u8, u9, q1, ?_, k1, keep, _, _, rfl⟩
    simp [d1, g1]
end
end KK
end Rf
end T_K01No
section T_K01Np
set_option Elab.async false
set_option linter.all false
set_option maxRecDepth 100000
set_option maxHeartbeats 4000000
namespace Rf
namespace KK
open PySem L2
section
variable {n c : Nat} {M : Mem} {q : Int × Int}
def kinds12 : List D := [.str "outer", .str "inner", .str "join", .str "half", .str "split", .str "read", .str "again", .str "again", .str "hold", .str "hold", .str "hold", .str "cut"]
theorem kinds12_ok : ∀ x ∈ kinds12, x ∈ kindL := by
  intro x hx
  unfold kinds12 at hx
  unfold kindL
  simp only [List.mem_cons, List.not_mem_nil, or_false] at hx ⊢
  rcases hx with rfl | rfl | rfl | rfl | rfl | rfl | rfl | rfl | rfl | rfl | rfl | rfl <;> simp
theorem kinds_eq : callN gi.tab (n + 1) 43 [] M = ok (.lst kinds12) M := by
  refine call_ex (fd := f__law_kinds.fd) rfl rfl ⟨[], ?_⟩
  show exs _ b__law_kinds [] M = _
  have s12 : 12 ≤ sizeLine := line1 12 (by decide)
  simp [b__law_kinds, s12, kinds12]
def scriptB : List CS := [.asg (.nm 7) (.call 41 (.cons (.var 0) (.cons (.var 1) (.cons (.var 5) (.cons (.var 3) .nil)))) []), sb2, sb3, sb4, .asg (.nm 4) (.bin .add (.var 4) (.tup (.cons (.var 7) .nil)))]
theorem scriptB_eq {ts : List D} {p s : D} {u2 u6 u7 u8 u9 u10 : Option D} {fs xs : List D} (h : c < M.length) (hq : jok q) (hts : ts.length = 1 ∨ ts.length = 2) (hf : ∀ x ∈ fs, okD 0 3 x = true ∧ hasFirst x) (hfl : fs.length ≤ 19) (hx : ∀ x ∈ xs, isN4 x = true) (hxl : xs.length ≤ 50) :
    ∃ v ys a7 a8 a9 q', exs (callN gi.tab (n + 4)) scriptB [some (.cell c), some (.tup [.tup ts, p, s]), u2, some (.lst kinds12), some (.tup fs), some (.lst xs), u6, u7, u8, u9, u10] (mj M c q)
      = some (.nx, [some (.cell c), some (.tup [.tup ts, p, s]), u2, some (.lst kinds12), some (.tup (fs ++ [v])), some (.lst ys), u6, a7, a8, a9, u10], mj M c q') ∧ jok q' ∧ (okD 0 3 v = true ∧ hasFirst v) ∧ (∀ x ∈ ys, isN4 x = true) ∧ ys.length ≤ xs.length + 2 := by
  have s1 : 1 ≤ sizeLine := line1 1 (by decide)
  obtain ⟨v1, q1, d1, k1, h1⟩ := law_plain_eq (n := n) (M := M) (p := p) (s := s) (ts := ts) (xs := xs) (ks := kinds12) h hq hts hx (by omega) kinds12_ok (by decide) (by decide)
  obtain ⟨v2, q2, d2, k2, h2⟩ := sb2_eq (n := n) (M := M) (u1 := some (.tup [.tup ts, p, s])) (u2 := u2) (u3 := some (.lst kinds12)) (u6 := u6) (u8 := u8) (u9 := u9) (u10 := u10) (fs := fs) (xs := xs) h k1 hf (by omega) hx (by omega) h1
  obtain ⟨ys, d3, h3, l3⟩ := sb3_eq (M := mj M c q2) (c := c) (cl := callN gi.tab (n + 4)) (u1 := some (.tup [.tup ts, p, s])) (u2 := u2) (u3 := some (.lst kinds12)) (u4 := some (.tup fs)) (u6 := u6) (u8 := u8) (u9 := u9) (u10 := u10) (xs := xs) hx hxl h2
  obtain ⟨v4, a8, a9, q4, d4, k4, h4⟩ := sb4_eq (n := n) (M := M) (u1 := some (.tup [.tup ts, p, s])) (u2 := u2) (u3 := some (.lst kinds12)) (u6 := u6) (u8 := u8) (u9 := u9) (u10 := u10) (fs := fs) (xs := ys) h k2 h3 (by omega) h2
  have a1 : ∀ M : Mem, eOp M .add (.tup fs) (.tup [v4]) = some (.tup (fs ++ [v4])) := fun M => addT (by simp; omega)
  refine ⟨v4, ys, some v4, a8, a9, q4, ?_, k4, h4, h3, l3⟩
  simp [scriptB, d1, d2, d3, d4, s1, a1]
theorem cutStart : okD 0 3 (.tup [.str "cut", .str "a", .int 0, .int 10]) = true := by decide +kernel
theorem script_eq {ts : List D} {p s : D} (h : c < M.length) (hq : jok q) (hts : ts.length = 1 ∨ ts.length = 2) : ∃ v q', callN gi.tab (n + 5) 42 [.cell c, .tup [.tup ts, p, s], .int 4, .lst kinds12] (mj M c q) = ok v (mj M c q') ∧ jok q' ∧ okD 0 5 v = true := by
  have s0 : 0 ≤ sizeLine := line1 0 (by decide)
  have s1 : 1 ≤ sizeLine := line1 1 (by decide)
  have s2 : 2 ≤ sizeLine := line1 2 (by decide)
  have s4 : 4 ≤ sizeLine := line1 4 (by decide)
  obtain ⟨v1, q1, d1, k1, h1⟩ := law_plain_eq (n := n) (M := M) (p := p) (s := s) (ts := ts) (xs := []) (ks := [.str "cut"]) h hq hts (by intro x hx; cases hx) (by simp) (by intro x hx; simp only [List.mem_cons, List.not_mem_nil, or_false] at hx; subst hx; unfold kindL; simp) (by simp) (by simp)
  obtain ⟨z, q2, d2, k2, z0, z1⟩ := dip_eq (n := n + 3) (M := M) (m := 5) h k1 (by omega) (by omega)
  have hv1 : okD 0 3 v1 = true ∧ hasFirst v1 := by
    obtain ⟨ho, w, x, r, rfl, _⟩ := h1
    exact ⟨okD_mono (Nat.le_refl _) (by omega) ho, _, _, rfl⟩
  have hlen : (rangeD 0 z).length = z.toNat := by unfold rangeD; simp
  obtain ⟨e, M', hl, fs, ys, u6, u7, u8, u9, u10, q3, rfl, rfl, k3, hfl, hf, hys, hyl⟩ := forS_st (tg := .nm 6) (b := exs (callN gi.tab (n + 4)) scriptB)
    (fun i e M' => ∃ fs ys u6 u7 u8 u9 u10 q2, e = [some (.cell c), some (.tup [.tup ts, p, s]), some (.int 4), some (.lst kinds12), some (.tup fs), some (.lst ys), u6, u7, u8, u9, u10] ∧ M' = mj M c q2 ∧ jok q2 ∧ fs.length = 2 + i ∧ (∀ x ∈ fs, okD 0 3 x = true ∧ hasFirst x) ∧ (∀ x ∈ ys, isN4 x = true) ∧ ys.length ≤ 2 + 2 * i) 5
    (rangeD 0 z) 0 [some (.cell c), some (.tup [.tup ts, p, s]), some (.int 4), some (.lst kinds12), some (.tup [.tup [.str "cut", .str "a", .int 0, .int 10], v1]), some (.lst [.str "a", .str "b"]), none, none, none, none, none] (mj M c q2) (by omega)
    ⟨_, _, _, _, _, _, _, _, rfl, rfl, k2, rfl, by
      intro x hx
      simp only [List.mem_cons, List.not_mem_nil, or_false] at hx
      rcases hx with rfl | rfl
      · exact ⟨cutStart, _, _, rfl⟩
      · exact hv1, by
      intro x hx
      simp only [List.mem_cons, List.not_mem_nil, or_false] at hx
      rcases hx with rfl | rfl <;> decide +kernel, by simp⟩ (by
      intro x hx i e M' hi2 hi
      obtain ⟨fs, ys, u6, u7, u8, u9, u10, q2, rfl, rfl, k2, hfl, hf, hys, hyl⟩ := hi
      obtain ⟨v, ys', a7, a8, a9, q3, h1, k3, h2, h3, h4⟩ := scriptB_eq (n := n) (M := M) (p := p) (s := s) (u2 := some (.int 4)) (u6 := some x) (u7 := u7) (u8 := u8) (u9 := u9) (u10 := u10) h k2 hts hf (by omega) hys (by omega)
      refine ⟨_, _, _, rfl, h1, fs ++ [v], ys', _, _, _, _, _, q3, rfl, rfl, k3, by simp [hfl]; omega, ?_, h3, by omega⟩
      intro y hy
      rcases List.mem_append.mp hy with hy | hy
      · exact hf y hy
      · simp only [List.mem_cons, List.not_mem_nil, or_false] at hy
        subst hy; exact h2)
  have hI : evI (callN gi.tab (n + 4)) (.rng (.call 29 (.cons (.var 0) (.cons (.bin .add (.var 2) (.con (.int (1)))) .nil)) [])) [some (.cell c), some (.tup [.tup ts, p, s]), some (.int 4), some (.lst kinds12), some (.tup [.tup [.str "cut", .str "a", .int 0, .int 10], v1]), some (.lst [.str "a", .str "b"]), none, none, none, none, none] (mj M c q1) = ok (rangeD 0 z) (mj M c q2) := by
    have hs : small62 z = true := by
      unfold small62
      rw [decide_eq_true (by omega), decide_eq_true (by omega)]; rfl
    unfold evI
    simp [d2, hs]
  refine ⟨.tup fs, q3, ?_, k3, okD_tupI (by omega) fun x hx => okD_mono (Nat.le_refl _) (by omega) (hf x hx).1⟩
  refine call_exL (fd := f__law_script.fd) rfl rfl (by rw [mj_len, mj_len]) ⟨[some (.cell c), some (.tup [.tup ts, p, s]), some (.int 4), some (.lst kinds12), some (.tup fs), some (.lst ys), u6, u7, u8, u9, u10], ?_⟩
  show exs _ b__law_script [some (.cell c), some (.tup [.tup ts, p, s]), some (.int 4), some (.lst kinds12), none, none, none, none, none, none, none] (mj M c q) = _
  unfold scriptB sb2 sb3 sb4 at hl
  simp [b__law_script, s0, s1, s2, s4, d1, hI, hl]
end
end KK
end Rf
end T_K01Np
section T_K01Nq
set_option Elab.async false
set_option linter.all false
set_option maxRecDepth 100000
set_option maxHeartbeats 4000000
namespace Rf
namespace KK
open PySem L2
section
variable {n c : Nat} {M : Mem} {q : Int × Int}
theorem lcL_draw {g : D → Mem → Res (Option D)} (P : D → Prop) : ∀ (xs acc : List D) (q : Int × Int), jok q → (∀ x ∈ xs, ∀ q, jok q → ∃ v q', g x (mj M c q) = ok (some v) (mj M c q') ∧ jok q' ∧ P v) →
    ∃ ys q', lcL g xs (mj M c q) acc = ok (acc ++ ys) (mj M c q') ∧ jok q' ∧ ys.length = xs.length ∧ ∀ y ∈ ys, P y
  | [], acc, q, hq, _ => ⟨[], q, by rw [List.append_nil]; rfl, hq, rfl, by intro y hy; cases hy⟩
  | x :: xs, acc, q, hq, h => by
    obtain ⟨v, q1, d1, k1, hv⟩ := h x (List.mem_cons_self ..) q hq
    obtain ⟨ys, q2, d2, k2, hl, hy⟩ := lcL_draw P xs (acc ++ [v]) q1 k1 fun y hy => h y (List.mem_cons_of_mem _ hy)
    refine ⟨v :: ys, q2, ?_, k2, by simp [hl], ?_⟩
    · unfold lcL
      rw [d1]
      show lcL g xs (mj M c q1) (acc ++ [v]) = _
      rw [d2, List.append_assoc]; rfl
    · intro y hy'
      rcases List.mem_cons.mp hy' with rfl | hy'
      · exact hv
      · exact hy y hy'
def lcG (cl : Calls) (e : CE) (tg : Tg) (env : Env) (x : D) (M : Mem) : Res (Option D) := match asT tg x (wipeE env tg.slots) with
  | some env' => (ev cl e env' M).bind fun y M => ok (some y) M
  | none => none
theorem ev_lc_G {cl : Calls} {e : CE} {tg : Tg} {it : CI} {env : Env} {M : Mem} : ev cl (.lc e tg it) env M = (evI cl it env M).bind fun xs M => (lcL (lcG cl e tg env) xs M []).bind fun ys M => if ys.length ≤ sizeLine then ok (.lst ys) M else none := by
  unfold ev
  rfl
theorem ev_lc_draw {cl : Calls} {e : CE} {i : Nat} {it : CI} {env : Env} {M1 : Mem} {xs : List D} (P : D → Prop) (hi : evI cl it env M1 = ok xs (mj M c q)) (hl : xs.length ≤ 1000) (hq : jok q)
    (hg : ∀ x ∈ xs, ∀ q, jok q → ∃ v q', ev cl e (env.set i (some x)) (mj M c q) = ok v (mj M c q') ∧ jok q' ∧ P v) : ∃ ys q', ev cl (.lc e (.nm i) it) env M1 = ok (.lst ys) (mj M c q') ∧ jok q' ∧ ys.length = xs.length ∧ ∀ y ∈ ys, P y := by
  obtain ⟨ys, q', h1, h2, h3, h4⟩ := lcL_draw (M := M) (c := c) (g := lcG cl e (.nm i) env) P xs [] q hq (by
    intro x hx q hq
    obtain ⟨v, q', e1, e2, e3⟩ := hg x hx q hq
    refine ⟨v, q', ?_, e2, e3⟩
    show (ev cl e ((env.set i none).set i (some x)) (mj M c q)).bind _ = _
    rw [List.set_set, e1]
    rfl)
  refine ⟨ys, q', ?_, h2, h3, h4⟩
  rw [ev_lc_G, hi]
  simp only [s_bind_ok]
  rw [h1, List.nil_append]
  simp only [s_bind_ok]
  rw [if_pos (sz (by omega))]
def baseL : List D := [.int 0, .int 1, .int (-1), .int 2, .int 3, .int 20, .int 21, .bl true, .bl false, .non, .str "", .str "a", .str "f", .str "g", .str "cut", .str "same", .int 10000000000000000000000000000000, .tup [], .lst []]
def baseT : List D := [.tup [.int 1, .int 2], .tup [.int 2, .int 4], .tup [.int 0, .int 1], .tup [.str "cut", .str "a", .int 0, .int 3], .tup [.str "hold", .str "a", .str "b"]]
theorem base_ok : ∀ x ∈ baseL ++ baseT, okD 0 1 x = true := List.all_eq_true.mp (by decide +kernel)
theorem pow31 {M : Mem} : eOp M .pow (.int 10) (.int 31) = some (.int 10000000000000000000000000000000) := by
  show ePow 10 31 = _
  unfold ePow
  rw [if_pos (by decide)]; rfl
theorem any_base {z : Int} (h : c < M.length) (hq : jok q) {u3 u4 : Option D} {d : Int} : ∃ v q', exs (callN gi.tab (n + 2)) [.asg (.nm 2) (.lst (.cons (.con (.int (0))) (.cons (.con (.int (1))) (.cons (.neg (.con (.int (1)))) (.cons (.con (.int (2))) (.cons (.con (.int (3))) (.cons (.con (.int (20))) (.cons (.con (.int (21))) (.cons (.con (.bl true)) (.cons (.con (.bl false)) (.cons (.con (.non)) (.cons (.con (.str "")) (.cons (.con (.str "a")) (.cons (.con (.str "f")) (.cons (.con (.str "g")) (.cons (.con (.str "cut")) (.cons (.con (.str "same")) (.cons (.bin .pow (.con (.int (10))) (.con (.int (31)))) (.cons (.tup .nil) (.cons (.lst .nil) .nil)))))))))))))))))))),
    .ret (.call 30 (.cons (.var 0) (.cons (.bin .add (.var 2) (.lst (.cons (.tup (.cons (.con (.int (1))) (.cons (.con (.int (2))) .nil))) (.cons (.tup (.cons (.con (.int (2))) (.cons (.con (.int (4))) .nil))) (.cons (.tup (.cons (.con (.int (0))) (.cons (.con (.int (1))) .nil))) (.cons (.tup (.cons (.con (.str "cut")) (.cons (.con (.str "a")) (.cons (.con (.int (0))) (.cons (.con (.int (3))) .nil))))) (.cons (.tup (.cons (.con (.str "hold")) (.cons (.con (.str "a")) (.cons (.con (.str "b")) .nil)))) .nil))))))) .nil)) [])]
    [some (.cell c), some (.int d), none, u3, u4] (mj M c q) = some (.ret v, [some (.cell c), some (.int d), some (.lst baseL), u3, u4], mj M c q') ∧ jok q' ∧ okD 0 1 v = true := by
  have s0 : 0 ≤ sizeLine := line1 0 (by decide)
  have s2 : 2 ≤ sizeLine := line1 2 (by decide)
  have s3 : 3 ≤ sizeLine := line1 3 (by decide)
  have s4 : 4 ≤ sizeLine := line1 4 (by decide)
  have s5 : 5 ≤ sizeLine := line1 5 (by decide)
  have s19 : 19 ≤ sizeLine := line1 19 (by decide)
  obtain ⟨v, q1, d1, k1, hv⟩ := any_of_eq (n := n) (M := M) (xs := baseL ++ baseT) h hq (by decide) (by decide)
  have a1 : ∀ M : Mem, eOp M .add (.lst baseL) (.lst baseT) = some (.lst (baseL ++ baseT)) := fun M => addL (by decide)
  have ng : ∀ M : Mem, negI (.int 1) M = ok (.int (-1)) M := fun _ => rfl
  refine ⟨v, q1, ?_, k1, base_ok v hv⟩
  have hb : ∀ (env : Env) (M : Mem), ev (callN gi.tab (n + 2)) (.lst (.cons (.con (.int (0))) (.cons (.con (.int (1))) (.cons (.neg (.con (.int (1)))) (.cons (.con (.int (2))) (.cons (.con (.int (3))) (.cons (.con (.int (20))) (.cons (.con (.int (21))) (.cons (.con (.bl true)) (.cons (.con (.bl false)) (.cons (.con (.non)) (.cons (.con (.str "")) (.cons (.con (.str "a")) (.cons (.con (.str "f")) (.cons (.con (.str "g")) (.cons (.con (.str "cut")) (.cons (.con (.str "same")) (.cons (.bin .pow (.con (.int (10))) (.con (.int (31)))) (.cons (.tup .nil) (.cons (.lst .nil) .nil)))))))))))))))))))) env M = ok (.lst baseL) M := by
    intro env M
    simp [s0, s19, ng, pow31, baseL]
  have ht : ∀ (env : Env) (M : Mem), ev (callN gi.tab (n + 2)) (.lst (.cons (.tup (.cons (.con (.int (1))) (.cons (.con (.int (2))) .nil))) (.cons (.tup (.cons (.con (.int (2))) (.cons (.con (.int (4))) .nil))) (.cons (.tup (.cons (.con (.int (0))) (.cons (.con (.int (1))) .nil))) (.cons (.tup (.cons (.con (.str "cut")) (.cons (.con (.str "a")) (.cons (.con (.int (0))) (.cons (.con (.int (3))) .nil))))) (.cons (.tup (.cons (.con (.str "hold")) (.cons (.con (.str "a")) (.cons (.con (.str "b")) .nil)))) .nil)))))) env M = ok (.lst baseT) M := by
    intro env M
    simp [s2, s3, s4, s5, baseT]
  simp only [exs_cons, ex_asg, hb, s_to_ok, asT_nm, List.set_cons_succ, List.set_cons_zero, seq_nx, ex_ret, ev_call, evs_cons, evs_nil, ev_var, s_get0, s_getS, s_bind_ok, ev_bin, ht, a1, s_lift, List.append_nil, d1, seq_ret]
theorem any_thing_eq (h : c < M.length) : ∀ (d : Nat) (q : Int × Int), jok q → d ≤ 10 → ∃ v q', callN gi.tab (n + 3 + d) 52 [.cell c, .int (d : Nat)] (mj M c q) = ok v (mj M c q') ∧ jok q' ∧ okD 0 (d + 1) v = true
  | 0, q, hq, _ => by
    obtain ⟨v, q1, d1, k1, hv⟩ := any_base (n := n) (c := c) (M := M) (q := q) (z := 0) (u3 := none) (u4 := none) (d := 0) h hq
    refine ⟨v, q1, ?_, k1, hv⟩
    refine call_exL (fd := f__law_any_thing.fd) rfl rfl (by rw [mj_len, mj_len]) ⟨[some (.cell c), some (.int 0), some (.lst baseL), none, none], ?_⟩
    show exs _ b__law_any_thing [some (.cell c), some (.int 0), none, none, none] (mj M c q) = _
    unfold b__law_any_thing
    rw [exs_cons, ex_ite]
    simp only [ev_or, ev_cmp, ev_var, s_get0, s_getS, s_bind_ok, ev_con, cEq, Option.map_some, s_lift, decide_true, s_asB, if_true, s_to_ok, d1, seq_ret]
  | d + 1, q, hq, hd => by
    obtain ⟨z, q1, d1, k1, _, _⟩ := dip_eq (n := n + 2 + d) (M := M) (m := 8) h hq (by omega) (by omega)
    have hne : ¬ ((d : Int) + 1 = 0) := by omega
    have hcast : ((d + 1 : Nat) : Int) = (d : Int) + 1 := by omega
    rw [hcast]
    by_cases g : z < 5
    · obtain ⟨v, q2, d2, k2, hv⟩ := any_base (n := n + 1 + d) (c := c) (M := M) (q := q1) (z := 0) (u3 := none) (u4 := none) (d := (d : Int) + 1) h k1
      refine ⟨v, q2, ?_, k2, okD_mono (Nat.le_refl _) (by omega) hv⟩
      refine call_exL (n := n + 3 + d) (fd := f__law_any_thing.fd) rfl rfl (by rw [mj_len, mj_len]) ⟨[some (.cell c), some (.int ((d : Int) + 1)), some (.lst baseL), none, none], ?_⟩
      show exs _ b__law_any_thing [some (.cell c), some (.int ((d : Int) + 1)), none, none, none] (mj M c q) = _
      rw [show n + 1 + d + 2 = n + 3 + d by omega] at d2
      rw [show n + 2 + d + 1 = n + 3 + d by omega] at d1
      unfold b__law_any_thing
      rw [exs_cons, ex_ite]
      simp only [ev_or, ev_cmp, ev_var, s_get0, s_getS, s_bind_ok, ev_con, cEq, Option.map_some, s_lift, decide_eq_false hne, s_asB, Bool.false_eq_true, if_false, ev_call, evs_cons, evs_nil, List.append_nil, d1, cLt, decide_eq_true g, if_true, s_to_ok, d2, seq_ret]
    · obtain ⟨m, q2, d2, k2, m0, m1⟩ := dip_eq (n := n + 2 + d) (M := M) (m := 5) h k1 (by omega) (by omega)
      have hs : small62 m = true := by
        unfold small62
        rw [decide_eq_true (by omega), decide_eq_true (by omega)]; rfl
      have hlen : (rangeD 0 m).length = m.toNat := by unfold rangeD; simp
      have ih := any_thing_eq h d
      have hI : evI (callN gi.tab (n + 3 + d)) (.rng (.call 29 (.cons (.var 0) (.cons (.con (.int (5))) .nil)) [])) [some (.cell c), some (.int ((d : Int) + 1)), none, none, none] (mj M c q1) = ok (rangeD 0 m) (mj M c q2) := by
        rw [show n + 2 + d + 1 = n + 3 + d by omega] at d2
        unfold evI
        simp [d2, hs]
      obtain ⟨ys, q3, hlc, k3, hl, hy⟩ := ev_lc_draw (M := M) (c := c) (cl := callN gi.tab (n + 3 + d)) (e := .call 52 (.cons (.var 0) (.cons (.bin .sub (.var 1) (.con (.int (1)))) .nil)) []) (i := 4) (fun v => okD 0 (d + 1) v = true) hI (by omega) k2 (by
          intro x hx q hq
          obtain ⟨v, q', e1, e2, e3⟩ := ih q hq (by omega)
          refine ⟨v, q', ?_, e2, e3⟩
          have hsub : (d : Int) + 1 - 1 = (d : Int) := by omega
          have e1' : callN gi.tab (n + 3 + d) 52 [.cell c, .int (d : Int)] (mj M c q) = ok v (mj M c q') := e1
          show ev (callN gi.tab (n + 3 + d)) (.call 52 (.cons (.var 0) (.cons (.bin .sub (.var 1) (.con (.int (1)))) .nil)) []) [some (.cell c), some (.int ((d : Int) + 1)), none, none, some x] (mj M c q) = _
          simp only [ev_call, evs_cons, evs_nil, ev_var, s_get0, s_getS, s_bind_ok, ev_bin, ev_con, eSub, s_lift, hsub, List.append_nil, e1'])
      obtain ⟨e, q4, d4, k4, e0, e1⟩ := dip_eq (n := n + 2 + d) (M := M) (m := 3) h k3 (by omega) (by omega)
      rw [show n + 2 + d + 1 = n + 3 + d by omega] at d1 d4
      have bt : ∀ M : Mem, eBi M .tuple [.lst ys] = some (.tup ys) := fun _ => rfl
      by_cases g2 : e = 0
      · refine ⟨.lst ys, q4, ?_, k4, okD_lstI (by omega) hy⟩
        refine call_exL (n := n + 3 + d) (fd := f__law_any_thing.fd) rfl rfl (by rw [mj_len, mj_len]) ⟨[some (.cell c), some (.int ((d : Int) + 1)), none, some (.lst ys), none], ?_⟩
        show exs _ b__law_any_thing [some (.cell c), some (.int ((d : Int) + 1)), none, none, none] (mj M c q) = _
        unfold b__law_any_thing
        rw [exs_cons, ex_ite]
        simp only [ev_or, ev_cmp, ev_var, s_get0, s_getS, s_bind_ok, ev_con, cEq, Option.map_some, s_lift, decide_eq_false hne, s_asB, Bool.false_eq_true, if_false, ev_call, evs_cons, evs_nil, List.append_nil, d1, cLt, decide_eq_false g, s_to_ok, exs_nil, seq_nx]
        rw [exs_cons, ex_asg, hlc]
        simp [d4, g2]
      · refine ⟨.tup ys, q4, ?_, k4, okD_tupI (by omega) hy⟩
        refine call_exL (n := n + 3 + d) (fd := f__law_any_thing.fd) rfl rfl (by rw [mj_len, mj_len]) ⟨[some (.cell c), some (.int ((d : Int) + 1)), none, some (.lst ys), none], ?_⟩
        show exs _ b__law_any_thing [some (.cell c), some (.int ((d : Int) + 1)), none, none, none] (mj M c q) = _
        unfold b__law_any_thing
        rw [exs_cons, ex_ite]
        simp only [ev_or, ev_cmp, ev_var, s_get0, s_getS, s_bind_ok, ev_con, cEq, Option.map_some, s_lift, decide_eq_false hne, s_asB, Bool.false_eq_true, if_false, ev_call, evs_cons, evs_nil, List.append_nil, d1, cLt, decide_eq_false g, s_to_ok, exs_nil, seq_nx]
        rw [exs_cons, ex_asg, hlc]
        simp [d4, g2, bt]
end
end KK
end Rf
end T_K01Nq
section T_K01Nr
set_option Elab.async false
set_option linter.all false
set_option maxRecDepth 100000
set_option maxHeartbeats 4000000
namespace Rf
namespace KK
open PySem L2
section
variable {k j : Nat}
theorem okS_iff {s : Str} : okD k j (.str s) = true ↔ s.length ≤ 20 + k ∧ ∀ c ∈ s.cps.toList, c < 128 := by
  have h : okD k j (.str s) = (decide (s.length ≤ 20 + k) && s.cps.all (fun c => decide (c < 128))) := by cases j <;> rfl
  rw [h, Bool.and_eq_true, decide_eq_true_eq, ← Array.all_toList, List.all_eq_true]
  constructor
  · rintro ⟨h1, h2⟩
    exact ⟨h1, fun c hc => of_decide_eq_true (h2 c hc)⟩
  · rintro ⟨h1, h2⟩
    exact ⟨h1, fun c hc => decide_eq_true (h2 c hc)⟩
theorem okI_iff {i : Int} : okD k j (.int i) = true ↔ i.natAbs ≤ 10 ^ 40 + 20 * k := by
  have h : okD k j (.int i) = decide (i.natAbs ≤ 10 ^ 40 + 20 * k) := by cases j <;> rfl
  rw [h, decide_eq_true_eq]
theorem ok_upper {s : Str} (h : okD k j (.str s) = true) : okD k j (.str (Txt.upper s)) = true := by
  obtain ⟨h1, h2⟩ := okS_iff.mp h
  rw [PyProof.Rows.upper_ascii h2]
  refine okS_iff.mpr ⟨?_, ?_⟩
  · show (s.cps.map PyProof.Rows.up1).size ≤ _
    rw [Array.size_map]; exact h1
  · intro c hc
    rw [Array.toList_map] at hc
    obtain ⟨x, hx, rfl⟩ := List.mem_map.mp hc
    have := h2 x hx
    unfold PyProof.Rows.up1
    split <;> omega
theorem app_len {a b : Str} : (a ++ b).length = a.length + b.length := Array.size_append
theorem ok_addS {s : Str} (h : okD k j (.str s) = true) : okD (k + 1) j (.str (s ++ "s")) = true := by
  obtain ⟨h1, h2⟩ := okS_iff.mp h
  have hs : (("s" : Str)).length = 1 := by decide +kernel
  refine okS_iff.mpr ⟨by rw [app_len, hs]; omega, ?_⟩
  intro c hc
  have e : (s ++ ("s" : Str)).cps.toList = s.cps.toList ++ ("s" : Str).cps.toList := Array.toList_append ..
  rw [e] at hc
  rcases List.mem_append.mp hc with hc | hc
  · exact h2 c hc
  · have : ("s" : Str).cps.toList.all (fun c => decide (c < 128)) = true := by decide +kernel
    exact of_decide_eq_true (List.all_eq_true.mp this c hc)
end
section
variable {n c k j : Nat} {M : Mem} {q : Int × Int}
def spBase : List CS := [.asg (.nm 2) (.lst (.cons (.call 52 (.cons (.var 0) (.cons (.con (.int (1))) .nil)) []) (.cons (.lst (.cons (.var 1) .nil)) .nil))),
    .ite (.isi (.var 1) .str)
    [.asg (.nm 2) (.bin .add (.var 2) (.lst (.cons (.bin .add (.var 1) (.con (.str "s"))) (.cons (.con (.str "b")) (.cons (.con (.str "inner")) (.cons (.con (.str "read")) (.cons (.con (.str "longer")) (.cons (.me .upper (.var 1) .nil) .nil))))))))]
    [.ite (.isi (.var 1) .int)
    [.asg (.nm 2) (.bin .add (.var 2) (.lst (.cons (.bin .add (.var 1) (.con (.int (1)))) (.cons (.bin .sub (.var 1) (.con (.int (1)))) (.cons (.notV (.var 1)) (.cons (.bin .add (.var 1) (.con (.int (17)))) .nil))))))]
    []],
    .ret (.call 30 (.cons (.var 0) (.cons (.var 2) .nil)) [])]
theorem ty_str2 {d : D} (h : okD k j d = true) : isTy .str d = some (match d with | .str _ => true | _ => false) := by
  cases d <;> first | rfl | (cases j <;> cases h)
theorem ty_int2 {d : D} (h : okD k j d = true) : isTy .int d = some (match d with | .int _ => true | .bl _ => true | _ => false) := by
  cases d <;> first | rfl | (cases j <;> cases h)
theorem spBase_eq {d : D} {u2 u3 u4 : Option D} (h : c < M.length) (hq : jok q) (hd : okD k j d = true) (hk : k ≤ 100) : ∃ v a q', exs (callN gi.tab (n + 4)) spBase [some (.cell c), some d, u2, u3, u4] (mj M c q) = some (.ret v, [some (.cell c), some d, a, u3, u4], mj M c q') ∧ jok q' ∧ okD (k + 1) (j + 2) v = true := by
  have s1 : 1 ≤ sizeLine := line1 1 (by decide)
  have s2 : 2 ≤ sizeLine := line1 2 (by decide)
  have s4 : 4 ≤ sizeLine := line1 4 (by decide)
  have s6 : 6 ≤ sizeLine := line1 6 (by decide)
  obtain ⟨t, q1, d1, k1, ht⟩ := any_thing_eq (n := n) (M := M) h 1 q hq (by decide)
  have d1' : callN gi.tab (n + 4) 52 [.cell c, .int 1] (mj M c q) = ok t (mj M c q1) := d1
  have ht' : okD (k + 1) (j + 2) t = true := okD_mono (by omega) (by omega) ht
  have hl' : okD (k + 1) (j + 2) (.lst [d]) = true := okD_mono (k := k) (n := j + 1) (by omega) (by omega) (okD_lstI (by simp; omega) (by
    intro x hx
    simp only [List.mem_cons, List.not_mem_nil, or_false] at hx
    subst hx; exact hd))
  have fin : ∀ (ys : List D) (u : Option D), (∀ y ∈ ys, okD (k + 1) (j + 2) y = true) → ys.length ≤ 10 →
      ∃ v q', exs (callN gi.tab (n + 4)) [.ret (.call 30 (.cons (.var 0) (.cons (.var 2) .nil)) [])] [some (.cell c), some d, some (.lst (t :: .lst [d] :: ys)), u3, u4] (mj M c q1) = some (.ret v, [some (.cell c), some d, some (.lst (t :: .lst [d] :: ys)), u3, u4], mj M c q') ∧ jok q' ∧ okD (k + 1) (j + 2) v = true := by
    intro ys u hy hyl
    obtain ⟨v, q2, d2, k2, hv⟩ := any_of_eq (n := n + 2) (M := M) (xs := t :: .lst [d] :: ys) h k1 (by simp) (by simp; omega)
    refine ⟨v, q2, by simp [d2], k2, ?_⟩
    rcases List.mem_cons.mp hv with rfl | hv
    · exact ht'
    · rcases List.mem_cons.mp hv with rfl | hv
      · exact hl'
      · exact hy v hv
  have head : ∀ (cs : List CS), exs (callN gi.tab (n + 4)) (.asg (.nm 2) (.lst (.cons (.call 52 (.cons (.var 0) (.cons (.con (.int (1))) .nil)) []) (.cons (.lst (.cons (.var 1) .nil)) .nil))) :: cs) [some (.cell c), some d, u2, u3, u4] (mj M c q) = exs (callN gi.tab (n + 4)) cs [some (.cell c), some d, some (.lst [t, .lst [d]]), u3, u4] (mj M c q1) := by
    intro cs
    rw [exs_cons]
    simp [s1, s2, d1']
  unfold spBase
  rw [head]
  by_cases hs : ∃ s, d = .str s
  · obtain ⟨s, rfl⟩ := hs
    have ty : isTy .str (.str s) = some true := rfl
    have hsl := (okS_iff.mp hd).1
    have hs1 : (("s" : Str)).length = 1 := by decide +kernel
    have a1 : ∀ M : Mem, eOp M .add (.str s) (.str "s") = some (.str (s ++ "s")) := fun M => if_pos (by rw [hs1]; exact line1 _ (by omega))
    have up : ∀ M : Mem, eBi M .upper [.str s] = some (.str (Txt.upper s)) := fun M => if_pos (by omega)
    have hme : ∀ (env : Env) (M : Mem), getV env 1 M = ok (.str s) M → ev (callN gi.tab (n + 4)) (.me .upper (.var 1) .nil) env M = ok (.str (Txt.upper s)) M := by
      intro env M he
      unfold ev
      have hr : recv M .upper (.str s) = some () := rfl
      simp [he, hr, up]
    have w1 : okD 0 0 (.str "b") = true := by decide +kernel
    have w2 : okD 0 0 (.str "inner") = true := by decide +kernel
    have w3 : okD 0 0 (.str "read") = true := by decide +kernel
    have w4 : okD 0 0 (.str "longer") = true := by decide +kernel
    have a2 : ∀ M : Mem, eOp M .add (.lst [t, .lst [.str s]]) (.lst [.str (s ++ "s"), .str "b", .str "inner", .str "read", .str "longer", .str (Txt.upper s)]) = some (.lst [t, .lst [.str s], .str (s ++ "s"), .str "b", .str "inner", .str "read", .str "longer", .str (Txt.upper s)]) := fun M => addL (by simp)
    obtain ⟨v, q2, d2, k2, hv⟩ := fin [.str (s ++ "s"), .str "b", .str "inner", .str "read", .str "longer", .str (Txt.upper s)] none (by
      intro y hy
      simp only [List.mem_cons, List.not_mem_nil, or_false] at hy
      rcases hy with rfl | rfl | rfl | rfl | rfl | rfl
      · exact okD_mono (Nat.le_refl _) (by omega) (ok_addS hd)
      · exact okD_mono (by omega) (by omega) w1
      · exact okD_mono (by omega) (by omega) w2
      · exact okD_mono (by omega) (by omega) w3
      · exact okD_mono (by omega) (by omega) w4
      · exact okD_mono (by omega) (by omega) (ok_upper hd)) (by simp)
    refine ⟨v, some (.lst (t :: .lst [.str s] :: [.str (s ++ "s"), .str "b", .str "inner", .str "read", .str "longer", .str (Txt.upper s)])), q2, ?_, k2, hv⟩
    rw [exs_cons]
    simp only [ex_ite, ev_isi, ev_var, s_get0, s_getS, s_bind_ok, ty, Option.map_some, s_lift, s_asB, s_to_ok, if_true, exs_cons, ex_asg, ev_bin, ev_lst, evs_cons, evs_nil, ev_con, a1, hme [some (.cell c), some (.str s), some (.lst [t, .lst [.str s]]), u3, u4] _ rfl, List.length_cons, List.length_nil, Nat.zero_add, if_pos s6, a2, asT_nm, List.set_cons_succ, List.set_cons_zero, seq_nx, exs_nil]
    simp only [exs_cons, exs_nil, ex_ret, ev_call, evs_cons, evs_nil, ev_var, s_get0, s_getS, s_bind_ok, List.append_nil] at d2 ⊢
    exact d2
  · have ty : isTy .str d = some false := by
      rw [ty_str hd]
      cases d <;> first | rfl | exact absurd ⟨_, rfl⟩ hs
    by_cases hi : isTy .int d = some true
    · have key : ∃ (x y : Int) (b : Bool), (∀ M : Mem, eOp M .add d (.int 1) = some (.int (x + 1)) ∧ eOp M .sub d (.int 1) = some (.int (x - 1)) ∧ eOp M .add d (.int 17) = some (.int (x + 17))) ∧ notD d = some b ∧ x.natAbs ≤ 10 ^ 40 + 20 * k := by
        cases d <;> first | (cases hi; done) | skip
        · rename_i b
          refine ⟨if b = true then 1 else 0, 0, !b, fun M => ⟨rfl, rfl, rfl⟩, rfl, ?_⟩
          split <;> omega
        · rename_i i
          exact ⟨i, 0, !(i != 0), fun M => ⟨rfl, rfl, rfl⟩, rfl, okI_iff.mp hd⟩
      obtain ⟨x, _, b, ho, hn, hx⟩ := key
      have o1 : ∀ M : Mem, eOp M .add d (.int 1) = some (.int (x + 1)) := fun M => (ho M).1
      have o2 : ∀ M : Mem, eOp M .sub d (.int 1) = some (.int (x - 1)) := fun M => (ho M).2.1
      have o3 : ∀ M : Mem, eOp M .add d (.int 17) = some (.int (x + 17)) := fun M => (ho M).2.2
      have a2 : ∀ M : Mem, eOp M .add (.lst [t, .lst [d]]) (.lst [.int (x + 1), .int (x - 1), .bl b, .int (x + 17)]) = some (.lst [t, .lst [d], .int (x + 1), .int (x - 1), .bl b, .int (x + 17)]) := fun M => addL (by simp)
      obtain ⟨v, q2, d2, k2, hv⟩ := fin [.int (x + 1), .int (x - 1), .bl b, .int (x + 17)] none (by
        intro y hy
        simp only [List.mem_cons, List.not_mem_nil, or_false] at hy
        rcases hy with rfl | rfl | rfl | rfl
        · exact okI_iff.mpr (by omega)
        · exact okI_iff.mpr (by omega)
        · rfl
        · exact okI_iff.mpr (by omega)) (by simp)
      refine ⟨v, some (.lst (t :: .lst [d] :: [.int (x + 1), .int (x - 1), .bl b, .int (x + 17)])), q2, ?_, k2, hv⟩
      rw [exs_cons]
      simp only [ex_ite, ev_isi, ev_var, s_get0, s_getS, s_bind_ok, ty, hi, Option.map_some, s_lift, s_asB, s_to_ok, if_true, Bool.false_eq_true, if_false, exs_cons, ex_asg, ev_bin, ev_lst, evs_cons, evs_nil, ev_con, o1, o2, o3, ev_notV, hn, List.length_cons, List.length_nil, Nat.zero_add, if_pos s4, a2, asT_nm, List.set_cons_succ, List.set_cons_zero, seq_nx, exs_nil]
      simp only [exs_cons, exs_nil, ex_ret, ev_call, evs_cons, evs_nil, ev_var, s_get0, s_getS, s_bind_ok, List.append_nil] at d2 ⊢
      exact d2
    · have hi' : isTy .int d = some false := by
        rw [ty_int hd] at hi ⊢
        cases d <;> first | rfl | exact absurd rfl hi
      obtain ⟨v, q2, d2, k2, hv⟩ := fin [] none (by intro y hy; cases hy) (by simp)
      refine ⟨v, some (.lst (t :: .lst [d] :: [])), q2, ?_, k2, hv⟩
      rw [exs_cons]
      simp only [ex_ite, ev_isi, ev_var, s_get0, s_getS, s_bind_ok, ty, hi', Option.map_some, s_lift, s_asB, s_to_ok, Bool.false_eq_true, if_false, exs_cons, exs_nil, seq_nx]
      simp only [exs_cons, exs_nil, ex_ret, ev_call, evs_cons, evs_nil, ev_var, s_get0, s_getS, s_bind_ok, List.append_nil] at d2 ⊢
      exact d2
end
end KK
end Rf
end T_K01Nr
section T_K01Ns
set_option Elab.async false
set_option linter.all false
set_option maxRecDepth 100000
set_option maxHeartbeats 4000000
namespace Rf
namespace KK
open PySem L2
section
variable {xs : List D} {i : Nat}
theorem slTo (h : i < xs.length) : eSlc (.tup xs) none (some (i : Int)) = some (.tup (xs.take i)) := by
  show some (D.tup (cutD xs none (some (i : Int)))) = _
  unfold cutD
  rw [HT.sIx_none, HT.sIx_nat, List.drop_zero, Nat.sub_zero, Nat.min_eq_left (by omega)]
theorem slFrom (h : i < xs.length) : eSlc (.tup xs) (some ((i : Int) + 1)) none = some (.tup (xs.drop (i + 1))) := by
  show some (D.tup (cutD xs (some ((i : Int) + 1)) none)) = _
  have e : (i : Int) + 1 = ((i + 1 : Nat) : Int) := by omega
  rw [e]
  unfold cutD
  rw [HT.sIx_none, HT.sIx_nat, Nat.min_eq_left (by omega), List.take_of_length_le (by rw [List.length_drop]; omega)]
theorem slMid (h : i < xs.length) : eSlc (.tup xs) (some (i : Int)) (some ((i : Int) + 1)) = some (.tup [xs[i]]) := by
  show some (D.tup (cutD xs (some (i : Int)) (some ((i : Int) + 1)))) = _
  have e : (i : Int) + 1 = ((i + 1 : Nat) : Int) := by omega
  rw [e]
  unfold cutD
  rw [HT.sIx_nat, HT.sIx_nat, Nat.min_eq_left (by omega), Nat.min_eq_left (by omega), show i + 1 - i = 1 by omega, List.drop_eq_getElem_cons h]
  rfl
end
section
variable {n c k : Nat} {M : Mem}
def spMain : List CS := [.asg (.tp (.cons (.nm 3) (.cons (.nm 4) .nil))) (.tup (.cons (.call 29 (.cons (.var 0) (.cons (.bi .len (.cons (.var 1) .nil)) .nil)) []) (.cons (.call 29 (.cons (.var 0) (.cons (.con (.int (8))) .nil)) []) .nil))),
    .ite (.cmp .eq (.var 4) (.con (.int (0))))
    [.ret (.bin .add (.slc (.var 1) .no (.at (.var 3))) (.slc (.var 1) (.at (.bin .add (.var 3) (.con (.int (1))))) .no))]
    [],
    .ite (.cmp .eq (.var 4) (.con (.int (1))))
    [.ret (.bin .add (.bin .add (.slc (.var 1) .no (.at (.var 3))) (.bin .mul (.slc (.var 1) (.at (.var 3)) (.at (.bin .add (.var 3) (.con (.int (1)))))) (.con (.int (2))))) (.slc (.var 1) (.at (.bin .add (.var 3) (.con (.int (1))))) .no))]
    [],
    .ite (.cmp .eq (.var 4) (.con (.int (2))))
    [.ret (.rev (.var 1))]
    [],
    .ite (.cmp .eq (.var 4) (.con (.int (3))))
    [.ret (.bi .list (.cons (.var 1) .nil))]
    [],
    .ret (.bin .add (.bin .add (.slc (.var 1) .no (.at (.var 3))) (.tup (.cons (.call 53 (.cons (.var 0) (.cons (.idx (.var 1) (.var 3)) .nil)) []) .nil))) (.slc (.var 1) (.at (.bin .add (.var 3) (.con (.int (1))))) .no))]
theorem sp_split : b__law_spoiled = .ite (.or (.not (.isi (.var 1) .tuple)) (.or (.cmp .eq (.var 1) (.tup .nil)) (.cmp .eq (.call 29 (.cons (.var 0) (.cons (.con (.int (6))) .nil)) []) (.con (.int (0)))))) spBase [] :: spMain := rfl
theorem spMain_eq {xs : List D} {m j : Nat} {q : Int × Int} (h : c < M.length) (hq : jok q) (hx0 : xs ≠ []) (hl : xs.length ≤ 20 + k) (hk : k ≤ 100) (hx : ∀ x ∈ xs, okD k j x = true)
    (ih : ∀ x ∈ xs, ∀ q, jok q → ∃ v q', callN gi.tab (m + 1) 53 [.cell c, x] (mj M c q) = ok v (mj M c q') ∧ jok q' ∧ okD (k + 1) (j + 2) v = true) :
    ∃ v e q', exs (callN gi.tab (m + 1)) spMain [some (.cell c), some (.tup xs), none, none, none] (mj M c q) = some (.ret v, e, mj M c q') ∧ jok q' ∧ okD (k + 1) (j + 3) v = true := by
  have s1 : 1 ≤ sizeLine := line1 1 (by decide)
  have s2 : 2 ≤ sizeLine := line1 2 (by decide)
  have hpos : 0 < xs.length := by cases xs with
    | nil => exact absurd rfl hx0
    | cons => simp
  obtain ⟨z, q1, d1, k1, z0, z1⟩ := dip_eq (n := m) (M := M) (m := (xs.length : Int)) h hq (by omega) (by omega)
  obtain ⟨w, q2, d2, k2, w0, w1⟩ := dip_eq (n := m) (M := M) (m := 8) h k1 (by omega) (by omega)
  obtain ⟨i, rfl⟩ := Int.eq_ofNat_of_zero_le z0
  have hi : i < xs.length := by omega
  have t1 := slTo hi
  have t2 := slFrom hi
  have t3 := slMid hi
  have ht : ∀ x ∈ xs.take i, x ∈ xs := fun x h => List.mem_of_mem_take h
  have hd : ∀ x ∈ xs.drop (i + 1), x ∈ xs := fun x h => List.mem_of_mem_drop h
  have lt : (xs.take i).length = i := by rw [List.length_take]; omega
  have ld : (xs.drop (i + 1)).length = xs.length - (i + 1) := List.length_drop
  have up : ∀ x ∈ xs, okD (k + 1) (j + 2) x = true := fun x hx' => okD_mono (by omega) (by omega) (hx x hx')
  have key : ∀ ys : List D, ys.length ≤ 20 + (k + 1) → (∀ y ∈ ys, okD (k + 1) (j + 2) y = true) → okD (k + 1) (j + 3) (.tup ys) = true := fun ys h1 h2 => okD_tupI h1 h2
  have e1 := eEq_int (a := w) (b := 0)
  have head : exs (callN gi.tab (m + 1)) spMain [some (.cell c), some (.tup xs), none, none, none] (mj M c q) = exs (callN gi.tab (m + 1)) (spMain.drop 1) [some (.cell c), some (.tup xs), none, some (.int (i : Int)), some (.int w)] (mj M c q2) := by
    have d1' : callN gi.tab (m + 1) 29 [.cell c, .int (xs.length : Int)] (mj M c q) = ok (.int (i : Int)) (mj M c q1) := d1
    unfold spMain
    rw [exs_cons]
    simp [d1', d2, s2]
  rw [head]
  unfold spMain
  simp only [List.drop_succ_cons, List.drop_zero]
  by_cases g0 : w = 0
  · have a1 : ∀ M : Mem, eOp M .add (.tup (xs.take i)) (.tup (xs.drop (i + 1))) = some (.tup (xs.take i ++ xs.drop (i + 1))) := fun M => addT (by omega)
    refine ⟨.tup (xs.take i ++ xs.drop (i + 1)), [some (.cell c), some (.tup xs), none, some (.int (i : Int)), some (.int w)], q2, ?_, k2, key _ (by rw [List.length_append]; omega) ?_⟩
    · simp [g0, t1, t2, a1]
    · intro y hy
      rcases List.mem_append.mp hy with hy | hy
      · exact up y (ht y hy)
      · exact up y (hd y hy)
  by_cases g1 : w = 1
  · have m1 : ∀ M : Mem, eOp M .mul (.tup [xs[i]]) (.int 2) = some (.tup (List.replicate 2 xs[i])) := fun M => by rw [mulT (by decide) (by decide), rep_one]; rfl
    have a1 : ∀ M : Mem, eOp M .add (.tup (xs.take i)) (.tup (List.replicate 2 xs[i])) = some (.tup (xs.take i ++ List.replicate 2 xs[i])) := fun M => addT (by rw [List.length_replicate]; omega)
    have a2 : ∀ M : Mem, eOp M .add (.tup (xs.take i ++ List.replicate 2 xs[i])) (.tup (xs.drop (i + 1))) = some (.tup (xs.take i ++ List.replicate 2 xs[i] ++ xs.drop (i + 1))) := fun M => addT (by rw [List.length_append, List.length_replicate]; omega)
    refine ⟨.tup (xs.take i ++ List.replicate 2 xs[i] ++ xs.drop (i + 1)), [some (.cell c), some (.tup xs), none, some (.int (i : Int)), some (.int w)], q2, ?_, k2, key _ (by rw [List.length_append, List.length_append, List.length_replicate]; omega) ?_⟩
    · simp only [exs_cons, exs_nil, ex_ite, ex_ret, ev_cmp, ev_var, s_get0, s_getS, s_bind_ok, ev_con, cEq, Option.map_some, s_lift, s_asB, s_to_ok, decide_eq_false g0, Bool.false_eq_true, if_false, seq_nx, decide_eq_true g1, if_true, ev_bin, ev_slc, evO_no, evO_at, s_someI, t1, t2, t3, eAdd, m1, a1, a2, seq_ret]
    · intro y hy
      rcases List.mem_append.mp hy with hy | hy
      · rcases List.mem_append.mp hy with hy | hy
        · exact up y (ht y hy)
        · rw [List.eq_of_mem_replicate hy]
          exact up _ (List.getElem_mem hi)
      · exact up y (hd y hy)
  by_cases g2 : w = 2
  · refine ⟨.tup xs.reverse, [some (.cell c), some (.tup xs), none, some (.int (i : Int)), some (.int w)], q2, ?_, k2, key _ (by rw [List.length_reverse]; omega) fun y hy => up y (List.mem_reverse.mp hy)⟩
    have hr : eRev (.tup xs) = some (.tup xs.reverse) := rfl
    simp [g2, hr]
  by_cases g3 : w = 3
  · refine ⟨.lst xs, [some (.cell c), some (.tup xs), none, some (.int (i : Int)), some (.int w)], q2, ?_, k2, okD_lstI (by omega) up⟩
    simp [g3, bListT]
  · obtain ⟨v, q3, d3, k3, hv⟩ := ih xs[i] (List.getElem_mem hi) q2 k2
    have hat : ∀ M : Mem, eIdx M (.tup xs) (.int (i : Int)) = some xs[i] := fun M => by
      show atI xs (i : Int) = _
      unfold atI
      have : ixN xs.length (i : Int) = some i := by
        unfold ixN
        rw [if_pos (by omega), if_pos (by omega)]
        rfl
      rw [this]
      show xs[i]? = _
      rw [List.getElem?_eq_getElem hi]
    have a1 : ∀ M : Mem, eOp M .add (.tup (xs.take i)) (.tup [v]) = some (.tup (xs.take i ++ [v])) := fun M => addT (by simp; omega)
    have a2 : ∀ M : Mem, eOp M .add (.tup (xs.take i ++ [v])) (.tup (xs.drop (i + 1))) = some (.tup (xs.take i ++ [v] ++ xs.drop (i + 1))) := fun M => addT (by rw [List.length_append]; simp only [List.length_cons, List.length_nil]; omega)
    refine ⟨.tup (xs.take i ++ [v] ++ xs.drop (i + 1)), [some (.cell c), some (.tup xs), none, some (.int (i : Int)), some (.int w)], q3, ?_, k3, key _ (by rw [List.length_append, List.length_append]; simp only [List.length_cons, List.length_nil]; omega) ?_⟩
    · simp only [exs_cons, exs_nil, ex_ite, ex_ret, ev_cmp, ev_var, s_get0, s_getS, s_bind_ok, ev_con, cEq, Option.map_some, s_lift, s_asB, s_to_ok, decide_eq_false g0, decide_eq_false g1, decide_eq_false g2, decide_eq_false g3, Bool.false_eq_true, if_false, seq_nx, ev_bin, ev_slc, evO_no, evO_at, s_someI, t1, t2, eAdd, ev_tup, evs_cons, evs_nil, ev_call, ev_idx, hat, List.append_nil, d3, List.length_cons, List.length_nil, Nat.zero_add, if_pos s1, a1, a2, seq_ret]
    · intro y hy
      rcases List.mem_append.mp hy with hy | hy
      · rcases List.mem_append.mp hy with hy | hy
        · exact up y (ht y hy)
        · simp only [List.mem_cons, List.not_mem_nil, or_false] at hy
          subst hy; exact hv
      · exact up y (hd y hy)
theorem spoiled_eq (h : c < M.length) (hk : k ≤ 100) : ∀ (j : Nat) (d : D) (q : Int × Int), okD k j d = true → jok q → j ≤ 50 → ∃ v q', callN gi.tab (n + 6 + j) 53 [.cell c, d] (mj M c q) = ok v (mj M c q') ∧ jok q' ∧ okD (k + 1) (j + 2) v = true := by
  intro j
  induction j with
  | zero =>
    intro d q hd hq hj
    obtain ⟨v, a, q', d1, k1, hv⟩ := spBase_eq (n := n + 1) (M := M) (u2 := none) (u3 := none) (u4 := none) h hq hd hk
    refine ⟨v, q', ?_, k1, hv⟩
    refine call_exL (n := n + 5) (fd := f__law_spoiled.fd) rfl rfl (by rw [mj_len, mj_len]) ⟨[some (.cell c), some d, a, none, none], ?_⟩
    show exs _ b__law_spoiled [some (.cell c), some d, none, none, none] (mj M c q) = _
    have ty : isTy .tuple d = some false := by
      rw [ty_tup hd]
      cases d <;> first | rfl | (cases hd)
    rw [sp_split, exs_cons, ex_ite]
    simp only [ev_or, ev_not, ev_isi, ev_var, s_get0, s_getS, s_bind_ok, ty, Option.map_some, s_lift, s_asB, Bool.not_false, if_true, s_to_ok]
    have d1' : exs (callN gi.tab (n + 5)) spBase [some (.cell c), some d, none, none, none] (mj M c q) = _ := d1
    rw [d1', seq_ret]
  | succ j ihj =>
    intro d q hd hq hj
    have s0 : 0 ≤ sizeLine := line1 0 (by decide)
    have hc := okD_cmp hd (by omega)
    have base : ∀ (q1 : Int × Int), jok q1 → ∃ v a q', exs (callN gi.tab (n + 6 + j)) spBase [some (.cell c), some d, none, none, none] (mj M c q1) = some (.ret v, [some (.cell c), some d, a, none, none], mj M c q') ∧ jok q' ∧ okD (k + 1) (j + 1 + 2) v = true := by
      intro q1 hq1
      obtain ⟨v, a, q', d1, k1, hv⟩ := spBase_eq (n := n + 2 + j) (M := M) (u2 := none) (u3 := none) (u4 := none) h hq1 hd hk
      rw [show n + 2 + j + 4 = n + 6 + j by omega] at d1
      exact ⟨v, a, q', d1, k1, hv⟩
    have fin : ∀ {v : D} {e : Env} {q' : Int × Int}, exs (callN gi.tab (n + 6 + j)) b__law_spoiled [some (.cell c), some d, none, none, none] (mj M c q) = some (.ret v, e, mj M c q') → callN gi.tab (n + 6 + (j + 1)) 53 [.cell c, d] (mj M c q) = ok v (mj M c q') := by
      intro v e q' he
      exact call_exL (n := n + 6 + j) (fd := f__law_spoiled.fd) rfl rfl (by rw [mj_len, mj_len]) ⟨e, he⟩
    by_cases ht : ∃ xs, d = .tup xs
    · obtain ⟨xs, rfl⟩ := ht
      obtain ⟨j', hj', hl, hx⟩ := okD_tup hd
      cases hj'
      cases xs with
      | nil =>
        obtain ⟨v, a, q', d1, k1, hv⟩ := base q hq
        refine ⟨v, q', fin (e := [some (.cell c), some (.tup []), a, none, none]) ?_, k1, hv⟩
        have h2 : eEq (.tup []) (.tup []) = some true := (eEq_unit hc).trans rfl
        rw [sp_split, exs_cons, ex_ite]
        simp only [ev_or, ev_not, ev_isi, ev_var, s_get0, s_getS, s_bind_ok, tyT, Option.map_some, s_lift, s_asB, Bool.not_true, Bool.false_eq_true, if_false, ev_cmp, ev_tup, evs_nil, List.length_nil, if_pos s0, eUnit h2, if_true, s_to_ok, d1, seq_ret]
      | cons x r =>
        have h2 : eEq (.tup (x :: r)) (.tup []) = some false := (eEq_unit hc).trans rfl
        obtain ⟨z, q1, d0, k0, _, _⟩ := dip_eq (n := n + 5 + j) (M := M) (m := 6) h hq (by omega) (by omega)
        rw [show n + 5 + j + 1 = n + 6 + j by omega] at d0
        by_cases g : z = 0
        · obtain ⟨v, a, q', d1, k1, hv⟩ := base q1 k0
          refine ⟨v, q', fin (e := [some (.cell c), some (.tup (x :: r)), a, none, none]) ?_, k1, hv⟩
          rw [sp_split, exs_cons, ex_ite]
          simp only [ev_or, ev_not, ev_isi, ev_var, s_get0, s_getS, s_bind_ok, tyT, Option.map_some, s_lift, s_asB, Bool.not_true, Bool.false_eq_true, if_false, ev_cmp, ev_tup, evs_nil, List.length_nil, if_pos s0, eUnit h2, ev_call, evs_cons, ev_con, List.append_nil, d0, cEq, decide_eq_true g, if_true, s_to_ok, d1, seq_ret]
        · obtain ⟨v, e, q', d1, k1, hv⟩ := spMain_eq (m := n + 5 + j) (M := M) h k0 (by simp) hl hk hx (by
            intro y hy q hq
            obtain ⟨v, q', e1, e2, e3⟩ := ihj y q (hx y hy) hq (by omega)
            rw [show n + 5 + j + 1 = n + 6 + j by omega]
            exact ⟨v, q', e1, e2, e3⟩)
          rw [show n + 5 + j + 1 = n + 6 + j by omega] at d1
          refine ⟨v, q', fin (e := e) ?_, k1, hv⟩
          rw [sp_split, exs_cons, ex_ite]
          simp only [ev_or, ev_not, ev_isi, ev_var, s_get0, s_getS, s_bind_ok, tyT, Option.map_some, s_lift, s_asB, Bool.not_true, Bool.false_eq_true, if_false, ev_cmp, ev_tup, evs_nil, List.length_nil, if_pos s0, eUnit h2, ev_call, evs_cons, ev_con, List.append_nil, d0, cEq, decide_eq_false g, s_to_ok, exs_nil, seq_nx]
          exact d1
    · have ty : isTy .tuple d = some false := by
        rw [ty_tup hd]
        cases d <;> first | rfl | exact absurd ⟨_, rfl⟩ ht
      obtain ⟨v, a, q', d1, k1, hv⟩ := base q hq
      refine ⟨v, q', fin (e := [some (.cell c), some d, a, none, none]) ?_, k1, hv⟩
      rw [sp_split, exs_cons, ex_ite]
      simp only [ev_or, ev_not, ev_isi, ev_var, s_get0, s_getS, s_bind_ok, ty, Option.map_some, s_lift, s_asB, Bool.not_false, if_true, s_to_ok, d1, seq_ret]
end
end KK
end Rf
end T_K01Ns
section T_K01Nt
set_option Elab.async false
set_option linter.all false
set_option maxRecDepth 100000
set_option maxHeartbeats 4000000
namespace Rf
namespace KK
open PySem L2
section
variable {n : Nat} {M : Mem}
theorem mj_new {q : Int × Int} : M ++ [Cell.lst [.int q.1, .int q.2]] = mj (M ++ [.dead]) M.length q := by
  unfold mj
  rw [List.set_append_right _ _ (Nat.le_refl _), Nat.sub_self]
  rfl
theorem pow18 {M : Mem} : eOp M .pow (.int 10) (.int 18) = some (.int 1000000000000000000) := by
  show ePow 10 18 = _
  unfold ePow
  rw [if_pos (by decide)]; rfl
theorem jar_end {cl : Calls} {x k : Int} {env : Env} {a0 : Option D} (h0 : 0 ≤ x) (k0 : 0 ≤ k) (k1 : k ≤ 10) : ∃ q : Int × Int, jok q ∧ exs cl [.ret (.lstM (.cons (.ite (.cmp .ge (.var 2) (.bin .pow (.con (.int (10))) (.con (.int (18))))) (.var 2) (.con (.int (0)))) (.cons (.bin .mod (.bi .int (.cons (.bin .add (.bin .add (.bin .mod (.bi .int (.cons (.var 2) .nil)) (.con (.int (2147482943)))) (.bin .mul (.con (.int (60017))) (.var 1))) (.con (.int (83)))) .nil)) (.con (.int (2147482943)))) .nil)))]
    [a0, some (.int k), some (.int x)] M = some (.ret (.cell M.length), [a0, some (.int k), some (.int x)], mj (M ++ [.dead]) M.length q) := by
  have s2 : 2 ≤ sizeLine := line1 2 (by decide)
  have big : (60017 : Nat) < 2 ^ 250 := by decide
  have m1 : ∀ M : Mem, eOp M .mul (.int 60017) (.int k) = some (.int (60017 * k)) := fun M => eMul (by decide) (by omega)
  have m2 : ∀ (M : Mem) (i : Int), eOp M .mod (.int i) (.int 2147482943) = some (.int (i % 2147482943)) := fun M i => eMod (by decide)
  generalize hb : (x % 2147482943 + 60017 * k + 83) % 2147482943 = b
  have b0 : 0 ≤ b := by rw [← hb]; exact Int.emod_nonneg _ (by decide)
  have b1 : b < 2147482943 := by rw [← hb]; exact Int.emod_lt_of_pos _ (by decide)
  by_cases g : 1000000000000000000 ≤ x
  · refine ⟨(x, b), ⟨h0, b0, b1⟩, ?_⟩
    rw [← mj_new]
    have hl : D.lows 0 [.int x, .int b] = true := rfl
    simp [pow18, g, m1, m2, hb, s2, hl]
  · refine ⟨(0, b), ⟨Int.le_refl _, b0, b1⟩, ?_⟩
    rw [← mj_new]
    have hl : D.lows 0 [.int 0, .int b] = true := rfl
    simp [pow18, g, m1, m2, hb, s2, hl]
theorem jar_eq {ns : List Int} {k : Int} (k0 : 0 ≤ k) (k1 : k ≤ 10) : ∃ q : Int × Int, jok q ∧ callN gi.tab (n + 1) 28 [.scr ns, .int k] M = ok (.cell M.length) (mj (M ++ [.dead]) M.length q) := by
  have big : (60017 : Nat) < 2 ^ 250 := by decide
  have bl : ∀ M : Mem, eBi M .len [.scr ns] = some (.int ns.length) := fun _ => rfl
  have low : ∀ {M' : Mem}, leave M.length (.cell M.length) M' = ok (.cell M.length) M' := by
    intro M'
    unfold leave
    rw [if_neg]
    show ¬ (decide (M.length < M.length)) = true
    simp
  by_cases g : k < (ns.length : Int)
  · obtain ⟨i, rfl⟩ := Int.eq_ofNat_of_zero_le k0
    have hi : i < ns.length := by omega
    have hat : ∀ M : Mem, eIdx M (.scr ns) (.int (i : Int)) = some (.int ns[i]) := fun M => by
      show (atI ns (i : Int)).map _ = _
      unfold atI
      have : ixN ns.length (i : Int) = some i := by
        unfold ixN
        rw [if_pos (by omega), if_pos (by omega)]
        rfl
      rw [this]
      show (ns[i]?).map _ = _
      rw [List.getElem?_eq_getElem hi]; rfl
    obtain ⟨q, hq, he⟩ := jar_end (cl := callN gi.tab n) (M := M) (env := []) (a0 := some (.scr ns)) (k := (i : Int)) (absNN ns[i]) k0 k1
    refine ⟨q, hq, ?_⟩
    rw [call_ret (fd := f__law_jar.fd) (M' := mj (M ++ [.dead]) M.length q) (d := .cell M.length) (e := [some (.scr ns), some (.int (i : Int)), some (.int (if ns[i] < 0 then -ns[i] else ns[i]))]) rfl rfl, low]
    show exs _ b__law_jar [some (.scr ns), some (.int (i : Int)), none] M = _
    unfold b__law_jar
    rw [exs_cons]
    have g' : (i : Int) < (ns.length : Int) := g
    simp only [ex_asg, ev_ite, ev_cmp, ev_var, s_get0, s_getS, s_bind_ok, ev_bi, evs_cons, evs_nil, bl, s_lift, cLt, decide_eq_true g', Option.map_some, s_asB, if_true, ev_idx, hat, bInt1, bAbs1, s_to_ok, asT_nm, List.set_cons_succ, List.set_cons_zero, seq_nx]
    exact he
  · have m1 : ∀ M : Mem, eOp M .mul (.int 43) (.int k) = some (.int (43 * k)) := fun M => eMul (by decide) (by omega)
    obtain ⟨q, hq, he⟩ := jar_end (cl := callN gi.tab n) (M := M) (env := []) (a0 := some (.scr ns)) (k := k) (x := 43 * k + 17) (by omega) k0 k1
    refine ⟨q, hq, ?_⟩
    rw [call_ret (fd := f__law_jar.fd) (M' := mj (M ++ [.dead]) M.length q) (d := .cell M.length) (e := [some (.scr ns), some (.int k), some (.int (43 * k + 17))]) rfl rfl, low]
    show exs _ b__law_jar [some (.scr ns), some (.int k), none] M = _
    unfold b__law_jar
    rw [exs_cons]
    simp only [ex_asg, ev_ite, ev_cmp, ev_var, s_get0, s_getS, s_bind_ok, ev_bi, evs_cons, evs_nil, bl, s_lift, cLt, decide_eq_false g, Option.map_some, s_asB, Bool.false_eq_true, if_false, ev_bin, ev_con, m1, eAdd, s_to_ok, asT_nm, List.set_cons_succ, List.set_cons_zero, seq_nx]
    exact he
end
section
variable {c : Nat} {M : Mem} {q : Int × Int}
def turnB : List CS := [.asg (.nm 7) (.call 30 (.cons (.var 2) (.cons (.var 5) .nil)) []),
    .asg (.nm 8) (.lst (.cons (.var 7) (.cons (.call 53 (.cons (.var 2) (.cons (.var 7) .nil)) []) (.cons (.call 53 (.cons (.var 2) (.cons (.call 53 (.cons (.var 2) (.cons (.var 7) .nil)) []) .nil)) []) .nil)))),
    .ite (.not (.call 54 (.cons (.var 3) (.cons (.call 30 (.cons (.var 2) (.cons (.bin .add (.var 8) (.lst (.cons (.call 52 (.cons (.var 2) (.cons (.con (.int (2))) .nil)) []) .nil))) .nil)) []) .nil)) []))
    [.ret (.con (.bl false))]
    []]
theorem turnB_eq {w : D} {sm : List D} {a0 a1 a4 a6 a7 a8 : Option D} (h : c < M.length) (hq : jok q) (hw : isW w = true) (ow : okD 0 5 w = true) (hs : ∀ x ∈ sm, okD 0 5 x = true) (hs0 : sm ≠ []) (hsl : sm.length ≤ 10) :
    ∃ t m q', exs (callN gi.tab 59) turnB [a0, a1, some (.cell c), some w, a4, some (.lst sm), a6, a7, a8, none, none, none, none, none, none] (mj M c q)
      = some (.nx, [a0, a1, some (.cell c), some w, a4, some (.lst sm), a6, t, m, none, none, none, none, none, none], mj M c q') ∧ jok q' := by
  have s1 : 1 ≤ sizeLine := line1 1 (by decide)
  have s3 : 3 ≤ sizeLine := line1 3 (by decide)
  obtain ⟨t, q1, d1, k1, ht⟩ : ∃ v q', callN gi.tab 59 30 [.cell c, .lst sm] (mj M c q) = ok v (mj M c q') ∧ jok q' ∧ v ∈ sm := any_of_eq (n := 57) h hq hs0 (by omega)
  have ot := hs t ht
  obtain ⟨x1, q2, d2, k2, o2⟩ : ∃ v q', callN gi.tab 59 53 [.cell c, t] (mj M c q1) = ok v (mj M c q') ∧ jok q' ∧ okD 1 7 v = true := spoiled_eq (n := 48) (k := 0) h (by decide) 5 t q1 ot k1 (by decide)
  obtain ⟨x2, q3, d3, k3, o3⟩ : ∃ v q', callN gi.tab 59 53 [.cell c, t] (mj M c q2) = ok v (mj M c q') ∧ jok q' ∧ okD 1 7 v = true := spoiled_eq (n := 48) (k := 0) h (by decide) 5 t q2 ot k2 (by decide)
  obtain ⟨x3, q4, d4, k4, o4⟩ : ∃ v q', callN gi.tab 59 53 [.cell c, x2] (mj M c q3) = ok v (mj M c q') ∧ jok q' ∧ okD 2 9 v = true := spoiled_eq (n := 46) (k := 1) h (by decide) 7 x2 q3 o3 k3 (by decide)
  obtain ⟨x4, q5, d5, k5, o5⟩ : ∃ v q', callN gi.tab 59 52 [.cell c, .int 2] (mj M c q4) = ok v (mj M c q') ∧ jok q' ∧ okD 0 3 v = true := any_thing_eq (n := 54) h 2 q4 k4 (by decide)
  obtain ⟨y, q6, d6, k6, hy⟩ : ∃ v q', callN gi.tab 59 30 [.cell c, .lst [t, x1, x3, x4]] (mj M c q5) = ok v (mj M c q') ∧ jok q' ∧ v ∈ [t, x1, x3, x4] := any_of_eq (n := 57) h k5 (by simp) (by simp)
  have oy : okD 2 9 y = true := by
    simp only [List.mem_cons, List.not_mem_nil, or_false] at hy
    rcases hy with rfl | rfl | rfl | rfl
    · exact okD_mono (by decide) (by decide) ot
    · exact okD_mono (by decide) (by decide) o2
    · exact o4
    · exact okD_mono (by decide) (by decide) o5
  have ar : callN gi.tab 59 54 [w, y] (mj M c q6) = ok (.bl true) (mj M c q6) := all_right_eq (n := 49) (k := 2) (j := 9) (okD_mono (by decide) (by decide) ow) hw oy (by decide) (by decide)
  have a1' : ∀ M : Mem, eOp M .add (.lst [t, x1, x3]) (.lst [x4]) = some (.lst [t, x1, x3, x4]) := fun M => addL (by simp)
  refine ⟨some t, some (.lst [t, x1, x3]), q6, ?_, k6⟩
  simp [turnB, s1, s3, d1, d2, d3, d4, d5, d6, ar, a1']
end
end KK
end Rf
end T_K01Nt
section T_K01Nu
set_option Elab.async false
set_option linter.all false
set_option maxRecDepth 100000
set_option maxHeartbeats 4000000
namespace Rf
namespace KK
open PySem L2
section
variable {M : Mem}
def kPre : List CS := [.asg (.nm 2) (.call 28 (.cons (.var 0) (.cons (.var 1) .nil)) []),
    .asg (.nm 3) (.call 37 (.cons (.var 2) .nil) []),
    .asg (.nm 4) (.bin .add (.slc (.lst (.cons (.con (.str "lack0")) (.cons (.con (.str "factor0")) (.cons (.con (.str "lack1")) (.cons (.con (.str "factor1")) .nil))))) .no (.at (.bin .mul (.con (.int (2))) (.bi .len (.cons (.idx (.var 3) (.con (.int (0)))) .nil))))) (.lst (.cons (.con (.str "pencil")) (.cons (.con (.str "saw")) .nil)))),
    .ite (.cmp .ne (.call 27 (.cons (.var 3) .nil) []) (.var 4))
    [.ret (.con (.bl false))]
    [],
    .asg (.nm 5) (.lst (.cons (.var 3) (.cons (.call 39 (.cons (.var 2) (.cons (.var 3) .nil)) []) (.cons (.call 42 (.cons (.var 2) (.cons (.var 3) (.cons (.con (.int (4))) (.cons (.call 43 .nil []) .nil)))) []) .nil))))]
def kBody : List CS := kPre ++ [.for_ (.nm 6) (.rng (.con (.int (14)))) turnB]
theorem names_cmp {w : D} (hw : isW w = true) : eCo .ne (names w) (names w) = some false := by
  have key : ∀ xs : List D, toPys xs = some (pyOfs xs) → SeqAt.shaped (.list (pyOfs xs)) = true → PyData.eqv (.list (pyOfs xs)) (.list (pyOfs xs)) = true → eCo .ne (.lst xs) (.lst xs) = some false := by
    intro xs h1 h2 h3
    show (eEq (.lst xs) (.lst xs)).map not = _
    rw [eEq_of (a := .lst xs) (b := .lst xs) ⟨by show (toPys xs).map _ = _; rw [h1]; rfl, h2⟩ ⟨by show (toPys xs).map _ = _; rw [h1]; rfl, h2⟩]
    show (some (PyData.eqv (.list (pyOfs xs)) (.list (pyOfs xs)))).map not = _
    rw [h3]; rfl
  unfold names
  split
  · exact key _ rfl (by decide +kernel) (by decide +kernel)
  · exact key _ rfl (by decide +kernel) (by decide +kernel)
theorem names_ev {ts : List D} {p s : D} (hts : ts.length = 1 ∨ ts.length = 2) {cl : Calls} {a0 a1 a2 : Option D} {r : Env} : ev cl (.bin .add (.slc (.lst (.cons (.con (.str "lack0")) (.cons (.con (.str "factor0")) (.cons (.con (.str "lack1")) (.cons (.con (.str "factor1")) .nil))))) .no (.at (.bin .mul (.con (.int (2))) (.bi .len (.cons (.idx (.var 3) (.con (.int (0)))) .nil))))) (.lst (.cons (.con (.str "pencil")) (.cons (.con (.str "saw")) .nil))))
    (a0 :: a1 :: a2 :: some (.tup [.tup ts, p, s]) :: r) M = ok (names (.tup [.tup ts, p, s])) M := by
  have s2 : 2 ≤ sizeLine := line1 2 (by decide)
  have s4 : 4 ≤ sizeLine := line1 4 (by decide)
  rcases hts with hl | hl
  · obtain ⟨t, rfl⟩ : ∃ t, ts = [t] := by
      rcases ts with _ | ⟨t, _ | ⟨u, r⟩⟩
      · cases hl
      · exact ⟨t, rfl⟩
      · simp at hl
    have m1 : ∀ M : Mem, eOp M .mul (.int 2) (.int 1) = some (.int 2) := fun M => eMul (by decide) (by decide)
    have sl : eSlc (.lst [.str "lack0", .str "factor0", .str "lack1", .str "factor1"]) none (some 2) = some (.lst [.str "lack0", .str "factor0"]) := rfl
    have a1 : ∀ M : Mem, eOp M .add (.lst [.str "lack0", .str "factor0"]) (.lst [.str "pencil", .str "saw"]) = some (.lst [.str "lack0", .str "factor0", .str "pencil", .str "saw"]) := fun M => addL (by decide)
    simp [s2, s4, jdx0, m1, sl, a1, names]
  · obtain ⟨t, u, rfl⟩ : ∃ t u, ts = [t, u] := by
      rcases ts with _ | ⟨t, _ | ⟨u, _ | ⟨v, r⟩⟩⟩
      · cases hl
      · simp at hl
      · exact ⟨t, u, rfl⟩
      · simp at hl
    have m1 : ∀ M : Mem, eOp M .mul (.int 2) (.int 2) = some (.int 4) := fun M => eMul (by decide) (by decide)
    have sl : eSlc (.lst [.str "lack0", .str "factor0", .str "lack1", .str "factor1"]) none (some 4) = some (.lst [.str "lack0", .str "factor0", .str "lack1", .str "factor1"]) := rfl
    have a1 : ∀ M : Mem, eOp M .add (.lst [.str "lack0", .str "factor0", .str "lack1", .str "factor1"]) (.lst [.str "pencil", .str "saw"]) = some (.lst [.str "lack0", .str "factor0", .str "lack1", .str "factor1", .str "pencil", .str "saw"]) := fun M => addL (by decide)
    simp [s2, s4, jdx0, m1, sl, a1, names]
theorem kBody_eq {ns : List Int} {k : Int} {a2 a3 a4 a5 a6 a7 a8 : Option D} (k0 : 0 ≤ k) (k1 : k ≤ 10) :
    ∃ b2 b3 b4 b5 b6 b7 b8 M', exs (callN gi.tab 59) kBody [some (.scr ns), some (.int k), a2, a3, a4, a5, a6, a7, a8, none, none, none, none, none, none] M
      = some (.nx, [some (.scr ns), some (.int k), b2, b3, b4, b5, b6, b7, b8, none, none, none, none, none, none], M') := by
  have s3 : 3 ≤ sizeLine := line1 3 (by decide)
  obtain ⟨q0, k0', d0⟩ : ∃ q : Int × Int, jok q ∧ callN gi.tab 59 28 [.scr ns, .int k] M = ok (.cell M.length) (mj (M ++ [.dead]) M.length q) := jar_eq (n := 58) k0 k1
  have h : M.length < (M ++ [Cell.dead]).length := by simp
  generalize hM : M ++ [Cell.dead] = N at d0 h
  generalize hc : M.length = c at d0 h
  obtain ⟨w, q1, d1, k1', hw, ow⟩ : ∃ w q', callN gi.tab 59 37 [.cell c] (mj N c q0) = ok w (mj N c q') ∧ jok q' ∧ isW w = true ∧ okD 0 5 w = true := world_eq (n := 56) h k0'
  obtain ⟨ts, p, s, rfl, hts, _⟩ := isW_eq hw
  have d2 : callN gi.tab 59 27 [.tup [.tup ts, p, s]] (mj N c q1) = ok (names (.tup [.tup ts, p, s])) (mj N c q1) := unknowns_eq (n := 50) ow hw (by decide)
  obtain ⟨v1, q2, d3, k2, o1⟩ : ∃ v q', callN gi.tab 59 39 [.cell c, .tup [.tup ts, p, s]] (mj N c q1) = ok v (mj N c q') ∧ jok q' ∧ okD 0 5 v = true := meant_eq (n := 56) hw h k1'
  have d4 : ∀ M : Mem, callN gi.tab 59 43 [] M = ok (.lst kinds12) M := fun M => kinds_eq (n := 58)
  obtain ⟨v2, q3, d5, k3, o2⟩ : ∃ v q', callN gi.tab 59 42 [.cell c, .tup [.tup ts, p, s], .int 4, .lst kinds12] (mj N c q2) = ok v (mj N c q') ∧ jok q' ∧ okD 0 5 v = true := script_eq (n := 54) h k2 hts
  have hcmp := names_cmp hw
  have hpre : exs (callN gi.tab 59) kPre [some (.scr ns), some (.int k), a2, a3, a4, a5, a6, a7, a8, none, none, none, none, none, none] M
      = some (.nx, [some (.scr ns), some (.int k), some (.cell c), some (.tup [.tup ts, p, s]), some (names (.tup [.tup ts, p, s])), some (.lst [.tup [.tup ts, p, s], v1, v2]), a6, a7, a8, none, none, none, none, none, none], mj N c q3) := by
    unfold kPre
    rw [exs_cons, ex_asg]
    simp only [ev_call, evs_cons, evs_nil, ev_var, s_get0, s_getS, s_bind_ok, List.append_nil, d0, s_to_ok, asT_nm, List.set_cons_succ, List.set_cons_zero, seq_nx]
    rw [exs_cons, ex_asg]
    simp only [ev_call, evs_cons, evs_nil, ev_var, s_get0, s_getS, s_bind_ok, List.append_nil, d1, s_to_ok, asT_nm, List.set_cons_succ, List.set_cons_zero, seq_nx]
    rw [exs_cons, ex_asg, names_ev hts]
    simp only [s_to_ok, asT_nm, List.set_cons_succ, List.set_cons_zero, seq_nx]
    rw [exs_cons, ex_ite]
    simp only [ev_cmp, ev_call, evs_cons, evs_nil, ev_var, s_get0, s_getS, s_bind_ok, List.append_nil, d2, hcmp, Option.map_some, s_lift, s_asB, s_to_ok, Bool.false_eq_true, if_false, exs_nil, seq_nx]
    rw [exs_cons, ex_asg]
    simp only [ev_lst, ev_call, evs_cons, evs_nil, ev_var, s_get0, s_getS, s_bind_ok, List.append_nil, ev_con, d3, d4, d5, List.length_cons, List.length_nil, Nat.zero_add, if_pos s3, s_to_ok, asT_nm, List.set_cons_succ, List.set_cons_zero, seq_nx, exs_nil]
  obtain ⟨e, M', hl, b6, b7, b8, q4, rfl, rfl, k4⟩ := forS_st (tg := .nm 6) (b := exs (callN gi.tab 59) turnB)
    (fun i e M' => ∃ b6 b7 b8 q, e = [some (.scr ns), some (.int k), some (.cell c), some (.tup [.tup ts, p, s]), some (names (.tup [.tup ts, p, s])), some (.lst [.tup [.tup ts, p, s], v1, v2]), b6, b7, b8, none, none, none, none, none, none] ∧ M' = mj N c q ∧ jok q) 14
    (rangeD 0 14) 0 [some (.scr ns), some (.int k), some (.cell c), some (.tup [.tup ts, p, s]), some (names (.tup [.tup ts, p, s])), some (.lst [.tup [.tup ts, p, s], v1, v2]), a6, a7, a8, none, none, none, none, none, none] (mj N c q3) (by unfold rangeD; simp) ⟨_, _, _, _, rfl, rfl, k3⟩ (by
      intro x hx i e M' hi2 hi
      obtain ⟨b6, b7, b8, q, rfl, rfl, kq⟩ := hi
      obtain ⟨t, m, q', h1, h2⟩ := turnB_eq (M := N) (c := c) (sm := [.tup [.tup ts, p, s], v1, v2]) (a0 := some (.scr ns)) (a1 := some (.int k)) (a4 := some (names (.tup [.tup ts, p, s]))) (a6 := some x) (a7 := b7) (a8 := b8) h kq hw ow (by
        intro y hy
        simp only [List.mem_cons, List.not_mem_nil, or_false] at hy
        rcases hy with rfl | rfl | rfl
        · exact ow
        · exact o1
        · exact o2) (by simp) (by simp)
      exact ⟨_, _, _, rfl, h1, _, _, _, _, rfl, rfl, h2⟩)
  refine ⟨some (.cell c), some (.tup [.tup ts, p, s]), some (names (.tup [.tup ts, p, s])), some (.lst [.tup [.tup ts, p, s], v1, v2]), b6, b7, b8, mj N c q4, ?_⟩
  have hI : ∀ (env : Env) (M : Mem), evI (callN gi.tab 59) (.rng (.con (.int (14)))) env M = ok (rangeD 0 14) M := by
    intro env M
    unfold evI
    have hs : small62 14 = true := rfl
    simp [hs]
  unfold kBody
  rw [exs_app, hpre, seq_nx, exs_cons, ex_for, hI]
  simp only [s_to_ok]
  rw [hl, seq_nx, exs_nil]
end
end KK
end Rf
end T_K01Nu
section T_K01Nv
set_option Elab.async false
set_option linter.all false
set_option maxRecDepth 100000
set_option maxHeartbeats 4000000
namespace Rf
namespace KK
open PySem L2
section
variable {M : Mem} {cl : Calls}
theorem szI {n : Nat} (h : n ≤ 1000) : (n ≤ sizeLine) = True := eq_true (Nat.le_trans h (line1 1000 (by decide)))
theorem addLr {xs ys : List D} : eOp M .add (.lst xs) (.lst ys) = if xs.length + ys.length ≤ sizeLine then some (.lst (xs ++ ys)) else none := rfl
theorem addTr {xs ys : List D} : eOp M .add (.tup xs) (.tup ys) = if xs.length + ys.length ≤ sizeLine then some (.tup (xs ++ ys)) else none := rfl
theorem mulTr {x : D} {k : Nat} (h : (k : Int) ≤ 1000) : eOp M .mul (.tup [x]) (.int (k : Int)) = some (.tup (List.replicate k x)) := by
  rw [mulT (by omega) h, Int.toNat_natCast, rep_one]
def fr (a b : Int) : D := .tup [.int a, .int b]
def rT : D := .tup [.tup [fr 0 1, fr 2 1], .tup [fr 49 50, fr 51 50]]
def rH : D := .tup [.str "hold", .str "a", .str "f"]
def rR : D := .tup [.str "read", .str "a", .int 0]
def p1 : D := .tup [fr 0 1, fr 1 2]
def p2 : D := .tup [fr 1 100, fr 1 2]
def rP : D := .tup [.tup [rT], p1, p2]
def rows1 : List D := [rP, .tup [.tup [rT, rT], p1, p2], .tup [.tup [rT, rT, rT], p1, p2], .tup [.tup [], p1, p2]]
def rows2 : List D := [.tup [.tup [rT], .tup [fr 0 1, fr 51 100], p2], .tup [.tup [rT], .tup [fr 1 101, fr 1 2], p2]]
def rows3 : List D := [.tup [fr 2 1, fr 51 50, fr 0 1, fr 1 2], .tup [fr 0 1, fr 1 1, fr 0 1, fr 0 1], .tup [rH, rH, rH, rH, rH, rH], .tup [rH, rH, rH, rH, rH, rH, rH]]
def rows4 : List D := [.tup [rR, rR], .tup [rR, rR, rR], .tup [.tup [.str "cut", .str "a", .int 1, .int 5]], .tup [.tup [.str "cut", .str "a", .int 0, .int 2]]]
def row5 : D := .tup [.tup [.str "cut", .str "f", .int 0, .int 20]]
def rows6 : List D := [.tup [.tup [.str "split", .str "a", .str "a", .str "b", .int 0, .int 5]], .tup [.tup [.str "split", .str "a", .str "b", .str "a", .int 0, .int 5]], .tup [.tup [.str "outer", .str "a", .str "b", .int 21]]]
def rB : D := .tup [.str "if", .str "a", .str "b", .str "same", .tup [rH, rH, rH], .tup [rH, rH, rH]]
def rows7 : List D := [.tup [rB], .tup [rB, rH, rH], .tup [rB, rH, rH, rH, rH], .tup [.tup [.str "if", .str "a", .str "b", .str "same", .tup [rB], .tup []]]]
def rowsA : List D := rows1 ++ rows2 ++ rows3 ++ rows4
def rowsB : List D := rowsA ++ [row5]
def rowsC : List D := rowsB ++ rows6 ++ rows7
theorem rP_ok : isW rP = true ∧ okD 0 6 rP = true := by decide +kernel
theorem rows_ok : ∀ x ∈ rowsC, okD 0 6 x = true := List.all_eq_true.mp (by decide +kernel)
theorem rows_len : rowsC.length ≤ 100 := by decide
variable {a0 a1 a2 a3 a4 a5 a6 a7 a8 : Option D}
theorem row_1 : exs cl ((b_law.drop 1).take 1) [a0, a1, a2, a3, a4, a5, a6, a7, a8, none, none, none, none, none, none] M = some (.nx, [a0, a1, a2, a3, a4, a5, a6, a7, a8, some rT, some rH, some rR, none, none, none], M) := by
  show exs cl [_] _ _ = _
  simp [szI, rT, rH, rR, fr]
theorem row_2 : exs cl ((b_law.drop 2).take 1) [a0, a1, a2, a3, a4, a5, a6, a7, a8, some rT, some rH, some rR, none, none, none] M = some (.nx, [a0, a1, a2, a3, a4, a5, a6, a7, a8, some rT, some rH, some rR, some rP, none, none], M) := by
  show exs cl [_] _ _ = _
  simp [szI, rP, p1, p2, fr]
theorem row_3 : exs cl ((b_law.drop 3).take 1) [a0, a1, a2, a3, a4, a5, a6, a7, a8, some rT, some rH, some rR, some rP, none, none] M = some (.nx, [a0, a1, a2, a3, a4, a5, a6, a7, a8, some rT, some rH, some rR, some rP, some (.lst rows1), none], M) := by
  show exs cl [_] _ _ = _
  have m3 : ∀ (x : D) (M : Mem), eOp M .mul (.tup [x]) (.int 3) = some (.tup [x, x, x]) := fun x M => mulTr (k := 3) (by decide)
  have i1 : ∀ M : Mem, eIdx M rP (.int 1) = some p1 := fun M => rfl
  have i2 : ∀ M : Mem, eIdx M rP (.int 2) = some p2 := fun M => rfl
  simp [szI, i1, i2, m3, rows1]
theorem row_4 : exs cl ((b_law.drop 4).take 1) [a0, a1, a2, a3, a4, a5, a6, a7, a8, some rT, some rH, some rR, some rP, some (.lst rows1), none] M = some (.nx, [a0, a1, a2, a3, a4, a5, a6, a7, a8, some rT, some rH, some rR, some rP, some (.lst (rows1 ++ rows2)), none], M) := by
  show exs cl [_] _ _ = _
  have i2 : ∀ M : Mem, eIdx M rP (.int 2) = some p2 := fun M => rfl
  have a : ∀ M : Mem, eOp M .add (.lst rows1) (.lst rows2) = some (.lst (rows1 ++ rows2)) := fun M => addL (by decide)
  unfold rows2 fr at a
  simp [szI, i2, a, rows2, fr]
theorem row_5 : exs cl ((b_law.drop 5).take 1) [a0, a1, a2, a3, a4, a5, a6, a7, a8, some rT, some rH, some rR, some rP, some (.lst (rows1 ++ rows2)), none] M = some (.nx, [a0, a1, a2, a3, a4, a5, a6, a7, a8, some rT, some rH, some rR, some rP, some (.lst (rows1 ++ rows2 ++ rows3)), none], M) := by
  show exs cl [_] _ _ = _
  have m6 : ∀ (x : D) (M : Mem), eOp M .mul (.tup [x]) (.int 6) = some (.tup [x, x, x, x, x, x]) := fun x M => mulTr (k := 6) (by decide)
  have m7 : ∀ (x : D) (M : Mem), eOp M .mul (.tup [x]) (.int 7) = some (.tup [x, x, x, x, x, x, x]) := fun x M => mulTr (k := 7) (by decide)
  have a : ∀ M : Mem, eOp M .add (.lst (rows1 ++ rows2)) (.lst rows3) = some (.lst (rows1 ++ rows2 ++ rows3)) := fun M => addL (by decide)
  generalize rows1 ++ rows2 = r12 at a ⊢
  unfold rows3 fr at a
  simp [szI, m6, m7, a, rows3, fr]
@[simp] theorem ev_addM {x y : CE} {env : Env} : ev cl (.addM x y) env M = (ev cl x env M).bind fun x M => (ev cl y env M).bind fun y M => match eAddM M x y with
    | some (d, M) => ok d M
    | none => none := rfl
theorem row_6 : exs cl ((b_law.drop 6).take 1) [a0, a1, a2, a3, a4, a5, a6, a7, a8, some rT, some rH, some rR, some rP, some (.lst (rows1 ++ rows2 ++ rows3)), none] M = some (.nx, [a0, a1, a2, a3, a4, a5, a6, a7, a8, some rT, some rH, some rR, some rP, some (.cell M.length), none], M ++ [.lst rowsA]) := by
  show exs cl [_] _ _ = _
  have a : ∀ M : Mem, eAddM M (.lst (rows1 ++ rows2 ++ rows3)) (.lst rows4) = some (.cell M.length, M ++ [.lst rowsA]) := fun M => by
    show (if (rows1 ++ rows2 ++ rows3).length + rows4.length ≤ sizeLine ∧ D.lows 0 ((rows1 ++ rows2 ++ rows3) ++ rows4) = true then some (D.cell M.length, M ++ [Cell.lst ((rows1 ++ rows2 ++ rows3) ++ rows4)]) else none) = _
    rw [if_pos ⟨line1 _ (by decide), by decide +kernel⟩]
    rfl
  generalize rows1 ++ rows2 ++ rows3 = r12 at a ⊢
  unfold rows4 at a
  simp [szI, a]
@[simp] theorem ex_app {o e : CE} {env : Env} : ex cl (.app o e) env M = (ev cl o env M).to env fun x M => match isLc M x with
    | none => none
    | some _ => (ev cl e env M).to env fun v M => match eApp M x v with
      | some M => some (.nx, env, M)
      | none => none := rfl
theorem row_7 : exs cl ((b_law.drop 7).take 1) [a0, a1, a2, a3, a4, a5, a6, a7, a8, some rT, some rH, some rR, some rP, some (.cell M.length), none] (M ++ [.lst rowsA]) = some (.nx, [a0, a1, a2, a3, a4, a5, a6, a7, a8, some rT, some rH, some rR, some rP, some (.cell M.length), none], M ++ [.lst rowsB]) := by
  show exs cl [_] _ _ = _
  have hM : (M ++ [Cell.lst rowsA])[M.length]? = some (.lst rowsA) := by simp
  have h1 : isLc (M ++ [.lst rowsA]) (.cell M.length) = some () := by
    unfold isLc
    simp only [hM]
  have h2 : eApp (M ++ [.lst rowsA]) (.cell M.length) row5 = some (M ++ [.lst rowsB]) := by
    unfold eApp
    simp only [hM]
    rw [if_pos ⟨Nat.lt_of_lt_of_le (show rowsA.length < 100 by decide) (line1 100 (by decide)), by decide +kernel⟩]
    show some ((M ++ [Cell.lst rowsA]).set M.length _) = _
    rw [List.set_append_right _ _ (Nat.le_refl _), Nat.sub_self]
    rfl
  unfold row5 at h2
  simp [szI, h1, h2]
theorem row_8 : exs cl ((b_law.drop 8).take 1) [a0, a1, a2, a3, a4, a5, a6, a7, a8, some rT, some rH, some rR, some rP, some (.cell M.length), none] (M ++ [.lst rowsB]) = some (.nx, [a0, a1, a2, a3, a4, a5, a6, a7, a8, some rT, some rH, some rR, some rP, some (.lst (rowsB ++ rows6)), none], M ++ [.lst rowsB]) := by
  show exs cl [_] _ _ = _
  have hM : (M ++ [Cell.lst rowsB])[M.length]? = some (.lst rowsB) := by simp
  have a : eOp (M ++ [.lst rowsB]) .add (.cell M.length) (.lst rows6) = some (.lst (rowsB ++ rows6)) := by
    unfold eOp
    simp only [hM]
    rw [if_pos (line1 _ (by decide))]
  unfold rows6 at a
  simp only [exs_cons, exs_nil, ex_asg, ev_bin, ev_var, s_get0, s_getS, s_bind_ok, ev_lst, evs_cons, evs_nil, ev_tup, ev_con, List.length_cons, List.length_nil, Nat.zero_add, Nat.reduceAdd, szI, Nat.reduceLeDiff, if_true, a, s_lift, s_to_ok, asT_nm, List.set_cons_succ, List.set_cons_zero, seq_nx]
  rfl
theorem row_9 : exs cl ((b_law.drop 9).take 1) [a0, a1, a2, a3, a4, a5, a6, a7, a8, some rT, some rH, some rR, some rP, some (.lst (rowsB ++ rows6)), none] M = some (.nx, [a0, a1, a2, a3, a4, a5, a6, a7, a8, some rT, some rH, some rR, some rP, some (.lst (rowsB ++ rows6)), some rB], M) := by
  show exs cl [_] _ _ = _
  have m3 : ∀ (x : D) (M : Mem), eOp M .mul (.tup [x]) (.int 3) = some (.tup [x, x, x]) := fun x M => mulTr (k := 3) (by decide)
  simp [szI, m3, rB]
theorem row_10 : exs cl ((b_law.drop 10).take 1) [a0, a1, a2, a3, a4, a5, a6, a7, a8, some rT, some rH, some rR, some rP, some (.lst (rowsB ++ rows6)), some rB] M = some (.nx, [a0, a1, a2, a3, a4, a5, a6, a7, a8, some rT, some rH, some rR, some rP, some (.lst rowsC), some rB], M) := by
  show exs cl [_] _ _ = _
  have m4 : ∀ (x : D) (M : Mem), eOp M .mul (.tup [x]) (.int 4) = some (.tup [x, x, x, x]) := fun x M => mulTr (k := 4) (by decide)
  have sl : eSlc rB none (some 4) = some (.tup [.str "if", .str "a", .str "b", .str "same"]) := rfl
  have a : ∀ M : Mem, eOp M .add (.lst (rowsB ++ rows6)) (.lst rows7) = some (.lst rowsC) := fun M => addL (by decide)
  have t1 : ∀ M : Mem, eOp M .add (.tup [rB]) (.tup [rH, rH, rH, rH]) = some (.tup [rB, rH, rH, rH, rH]) := fun M => addT (by decide)
  have t2 : ∀ M : Mem, eOp M .add (.tup [.str "if", .str "a", .str "b", .str "same"]) (.tup [.tup [rB], .tup []]) = some (.tup [.str "if", .str "a", .str "b", .str "same", .tup [rB], .tup []]) := fun M => addT (by decide)
  generalize rowsB ++ rows6 = r12 at a ⊢
  unfold rows7 at a
  simp [szI, m4, sl, t1, t2, a]
theorem row_end : ∃ e, exs (callN gi.tab 59) (b_law.drop 11) [a0, a1, a2, a3, a4, a5, a6, a7, a8, some rT, some rH, some rR, some rP, some (.lst rowsC), some rB] M = some (.ret (.bl true), e, M) := by
  refine ⟨[a0, a1, a2, a3, a4, a5, a6, a7, a8, some rT, some rH, some rR, some rP, some (.lst rowsC), some rB], ?_⟩
  have hlc := ev_lcIf_of (cl := callN gi.tab 59) (env := [a0, a1, a2, a3, a4, a5, a6, a7, a8, some rT, some rH, some rR, some rP, some (.lst rowsC), some rB]) (M := M) (e := .var 7) (i := 7) (it := .seq (.var 13))
      (c := .not (.call 54 (.cons (.var 12) (.cons (.var 7) .nil)) [])) (xs := rowsC) (fun _ => false) (by simp) (sz (Nat.le_trans rows_len (by decide)))
      (by
        intro z hz
        have ar : callN gi.tab 59 54 [rP, z] M = ok (.bl true) M := all_right_eq (n := 49) (k := 0) (j := 6) rP_ok.2 rP_ok.1 (rows_ok z hz) (by decide) (by decide)
        simp [ar])
      (by intro z hz h; cases h)
  have hf : rowsC.filter (fun _ => false) = [] := by decide +kernel
  rw [hf] at hlc
  have s0 : 0 ≤ sizeLine := line1 0 (by decide)
  have he : eCo .eq (.lst []) (.lst []) = some true := by
    show eEq (.lst []) (.lst []) = _
    rw [eEq_nil ⟨rfl, rfl⟩]; rfl
  show exs _ [_] _ _ = _
  simp [hlc, s0, he]
end
end KK
end Rf
end T_K01Nv
section T_K01Nw
set_option Elab.async false
set_option linter.all false
set_option maxRecDepth 100000
set_option maxHeartbeats 4000000
namespace Rf
namespace KK
open PySem L2
theorem mem_rangeD {m : Int} {x : D} (h : x ∈ rangeD 0 m) : ∃ k : Int, x = .int k ∧ 0 ≤ k ∧ k < m := by
  unfold rangeD at h
  obtain ⟨i, hi, rfl⟩ := List.mem_map.mp h
  rw [List.mem_range] at hi
  exact ⟨_, rfl, by omega, by omega⟩
theorem law_split : b_law = .for_ (.nm 1) (.rng (.bi .max2 (.cons (.con (.int (4))) (.cons (.bi .min2 (.cons (.con (.int (10))) (.cons (.bin .add (.bi .len (.cons (.var 0) .nil)) (.con (.int (3)))) .nil))) .nil)))) kBody :: ((b_law.drop 1).take 1 ++ ((b_law.drop 2).take 1 ++ ((b_law.drop 3).take 1 ++ ((b_law.drop 4).take 1 ++ ((b_law.drop 5).take 1 ++ ((b_law.drop 6).take 1 ++ ((b_law.drop 7).take 1 ++ ((b_law.drop 8).take 1 ++ ((b_law.drop 9).take 1 ++ ((b_law.drop 10).take 1 ++ b_law.drop 11)))))))))) := rfl
theorem law_true : ∀ ns : List Int, ns.length ≤ 63 → ∃ M, callN gi.tab 60 55 [.scr ns] [] = some (.ok (.bl true) M) := by
  intro ns hns
  have bl : ∀ M : Mem, eBi M .len [.scr ns] = some (.int ns.length) := fun _ => rfl
  have bmin : ∀ (M : Mem) (i j : Int), eBi M .min2 [.int i, .int j] = some (.int (if j < i then j else i)) := fun _ _ _ => rfl
  have bmax : ∀ (M : Mem) (i j : Int), eBi M .max2 [.int i, .int j] = some (.int (if j > i then j else i)) := fun _ _ _ => rfl
  generalize hm : (if (if (ns.length : Int) + 3 < 10 then (ns.length : Int) + 3 else 10) > 4 then (if (ns.length : Int) + 3 < 10 then (ns.length : Int) + 3 else 10) else 4) = m
  have hm0 : 0 ≤ m ∧ m ≤ 10 := by rw [← hm]; split <;> split <;> omega
  have hI : evI (callN gi.tab 59) (.rng (.bi .max2 (.cons (.con (.int (4))) (.cons (.bi .min2 (.cons (.con (.int (10))) (.cons (.bin .add (.bi .len (.cons (.var 0) .nil)) (.con (.int (3)))) .nil))) .nil)))) [some (.scr ns), none, none, none, none, none, none, none, none, none, none, none, none, none, none] [] = ok (rangeD 0 m) [] := by
    have hs : small62 m = true := by
      unfold small62
      rw [decide_eq_true (by omega), decide_eq_true (by omega)]; rfl
    unfold evI
    simp only [ev_bi, evs_cons, evs_nil, ev_con, ev_bin, ev_var, s_get0, s_bind_ok, bl, s_lift, eAdd, bmin, bmax, hm, hs, if_true]
  have hlen : (rangeD 0 m).length ≤ 10 := by unfold rangeD; simp; omega
  obtain ⟨e, M', hl, b1, b2, b3, b4, b5, b6, b7, b8, rfl⟩ := forS_st (tg := .nm 1) (b := exs (callN gi.tab 59) kBody)
    (fun i e M' => ∃ b1 b2 b3 b4 b5 b6 b7 b8, e = [some (.scr ns), b1, b2, b3, b4, b5, b6, b7, b8, none, none, none, none, none, none]) 10
    (rangeD 0 m) 0 [some (.scr ns), none, none, none, none, none, none, none, none, none, none, none, none, none, none] [] (by omega) ⟨_, _, _, _, _, _, _, _, rfl⟩ (by
      intro x hx i e M' hi2 hi
      obtain ⟨b1, b2, b3, b4, b5, b6, b7, b8, rfl⟩ := hi
      obtain ⟨k, rfl, k0, k1⟩ := mem_rangeD hx
      obtain ⟨c2, c3, c4, c5, c6, c7, c8, M2, h1⟩ := kBody_eq (M := M') (ns := ns) (k := k) (a2 := b2) (a3 := b3) (a4 := b4) (a5 := b5) (a6 := b6) (a7 := b7) (a8 := b8) k0 (by omega)
      exact ⟨_, _, _, rfl, h1, _, _, _, _, _, _, _, _, rfl⟩)
  obtain ⟨e, hend⟩ := row_end (M := M' ++ [Cell.lst rowsB]) (a0 := some (.scr ns)) (a1 := b1) (a2 := b2) (a3 := b3) (a4 := b4) (a5 := b5) (a6 := b6) (a7 := b7) (a8 := b8)
  have hb : exs (callN gi.tab 59) b_law [some (.scr ns), none, none, none, none, none, none, none, none, none, none, none, none, none, none] [] = some (.ret (.bl true), e, M' ++ [Cell.lst rowsB]) := by
    rw [law_split, exs_cons, ex_for, hI]
    simp only [s_to_ok]
    rw [hl, seq_nx]
    rw [exs_app, row_1, seq_nx, exs_app, row_2, seq_nx, exs_app, row_3, seq_nx, exs_app, row_4, seq_nx, exs_app, row_5, seq_nx, exs_app, row_6, seq_nx, exs_app, row_7, seq_nx, exs_app, row_8, seq_nx, exs_app, row_9, seq_nx, exs_app, row_10, seq_nx]
    exact hend
  refine ⟨(M' ++ [Cell.lst rowsB]).take 0, ?_⟩
  rw [call_ret (n := 59) (fd := f_law.fd) (M' := M' ++ [Cell.lst rowsB]) (d := .bl true) (e := e) rfl rfl hb]
  exact leave_low rfl
end KK
end Rf
end T_K01Nw
set_option Elab.async false
set_option linter.all false
set_option maxRecDepth 100000
namespace Rf
namespace KK
open PySem PySem.Spec PyProof.Rows L2

theorem gi_fns : gi.fns = fns := rfl
theorem bd_common : BindOk f_common := bind_n rfl rfl fun _ _ _ _ _ _ us hl => match us, hl with | [_, _], _ => rfl
theorem bd_lowest : BindOk f_lowest := bind_n rfl rfl fun _ _ _ _ _ _ us hl => match us, hl with | [_, _], _ => rfl
theorem bd_is_less : BindOk f_is_less := bind_n rfl rfl fun _ _ _ _ _ _ us hl => match us, hl with | [_, _], _ => rfl
theorem bd_is_integer : BindOk f_is_integer := bind_n rfl rfl fun _ _ _ _ _ _ us hl => match us, hl with | [_], _ => rfl
theorem bd_is_from : BindOk f_is_from := bind_n rfl rfl fun _ _ _ _ _ _ us hl => match us, hl with | [_, _, _], _ => rfl
theorem bd_is_tuple_of : BindOk f_is_tuple_of := bind_n rfl rfl fun _ _ _ _ _ _ us hl => match us, hl with | [_, _], _ => rfl
theorem bd_is_word : BindOk f_is_word := bind_n rfl rfl fun _ _ _ _ _ _ us hl => match us, hl with | [_, _], _ => rfl
theorem bd_is_any_fraction : BindOk f_is_any_fraction := bind_n rfl rfl fun _ _ _ _ _ _ us hl => match us, hl with | [_], _ => rfl
theorem bd_is_fraction : BindOk f_is_fraction := bind_n rfl rfl fun _ _ _ _ _ _ us hl => match us, hl with | [_, _], _ => rfl
theorem bd_is_between : BindOk f_is_between := bind_n rfl rfl fun _ _ _ _ _ _ us hl => match us, hl with | [_, _, _], _ => rfl
theorem bd_are_bounds : BindOk f_are_bounds := bind_n rfl rfl fun _ _ _ _ _ _ us hl => match us, hl with | [_, _, _], _ => rfl
theorem bd_is_tape : BindOk f_is_tape := bind_n rfl rfl fun _ _ _ _ _ _ us hl => match us, hl with | [_], _ => rfl
theorem bd_is_world : BindOk f_is_world := bind_n rfl rfl fun _ _ _ _ _ _ us hl => match us, hl with | [_], _ => rfl
theorem bd_bounds_of : BindOk f_bounds_of := bind_n rfl rfl fun _ _ _ _ _ _ us hl => match us, hl with | [_], _ => rfl
theorem bd_names_of : BindOk f_names_of := bind_n rfl rfl fun _ _ _ _ _ _ us hl => match us, hl with | [_], _ => rfl
theorem bd_many_of : BindOk f_many_of := bind_n rfl rfl fun _ _ _ _ _ _ us hl => match us, hl with | [_], _ => rfl
theorem bd_is_values_of : BindOk f_is_values_of := bind_n rfl rfl fun _ _ _ _ _ _ us hl => match us, hl with | [_, _], _ => rfl
theorem bd_is_name : BindOk f_is_name := bind_n rfl rfl fun _ _ _ _ _ _ us hl => match us, hl with | [_], _ => rfl
theorem bd_is_mark : BindOk f_is_mark := bind_n rfl rfl fun _ _ _ _ _ _ us hl => match us, hl with | [_], _ => rfl
theorem bd_is_plain : BindOk f_is_plain := bind_n rfl rfl fun _ _ _ _ _ _ us hl => match us, hl with | [_, _], _ => rfl
theorem bd_is_body : BindOk f_is_body := bind_n rfl rfl fun _ _ _ _ _ _ us hl => match us, hl with | [_, _], _ => rfl
theorem bd_is_step : BindOk f_is_step := by
  refine bind_d rfl (by decide) fun b hb => ?_
  have hb : b ∈ f_is_step.binds := hb
  unfold f_is_step at hb
  rcases List.mem_cons.mp hb with rfl | hb
  · exact ⟨0, rfl, rfl, fun _ _ _ _ _ _ _ us its hu hi => match us, its, hu, hi with | [_, _], [_], _, _ => ⟨_, rfl, rfl⟩⟩
  rcases List.mem_cons.mp hb with rfl | hb
  · exact ⟨1, rfl, rfl, fun _ _ _ _ _ _ _ us its hu hi => match us, its, hu, hi with | [_, _, _], [_], _, _ => ⟨_, rfl, rfl⟩⟩
  cases hb
theorem bd_all_steps : BindOk f_all_steps := bind_n rfl rfl fun _ _ _ _ _ _ us hl => match us, hl with | [_], _ => rfl
theorem bd_is_script_of : BindOk f_is_script_of := bind_n rfl rfl fun _ _ _ _ _ _ us hl => match us, hl with | [_, _], _ => rfl
theorem bd_need_world : BindOk f_need_world := bind_n rfl rfl fun _ _ _ _ _ _ us hl => match us, hl with | [_], _ => rfl
theorem bd_is_values : BindOk f_is_values := bind_n rfl rfl fun _ _ _ _ _ _ us hl => match us, hl with | [_, _], _ => rfl
theorem bd_is_script : BindOk f_is_script := bind_n rfl rfl fun _ _ _ _ _ _ us hl => match us, hl with | [_, _], _ => rfl
theorem bd_unknowns : BindOk f_unknowns := bind_n rfl rfl fun _ _ _ _ _ _ us hl => match us, hl with | [_], _ => rfl
theorem bd__law_jar : BindOk f__law_jar := bind_n rfl rfl fun _ _ _ _ _ _ us hl => match us, hl with | [_, _], _ => rfl
theorem bd__law_dip : BindOk f__law_dip := bind_n rfl rfl fun _ _ _ _ _ _ us hl => match us, hl with | [_, _], _ => rfl
theorem bd__law_any_of : BindOk f__law_any_of := bind_n rfl rfl fun _ _ _ _ _ _ us hl => match us, hl with | [_, _], _ => rfl
theorem bd__law_low : BindOk f__law_low := bind_n rfl rfl fun _ _ _ _ _ _ us hl => match us, hl with | [_, _], _ => rfl
theorem bd__law_add : BindOk f__law_add := bind_n rfl rfl fun _ _ _ _ _ _ us hl => match us, hl with | [_, _], _ => rfl
theorem bd__law_sub : BindOk f__law_sub := bind_n rfl rfl fun _ _ _ _ _ _ us hl => match us, hl with | [_, _], _ => rfl
theorem bd__law_mul : BindOk f__law_mul := bind_n rfl rfl fun _ _ _ _ _ _ us hl => match us, hl with | [_, _], _ => rfl
theorem bd__law_less : BindOk f__law_less := bind_n rfl rfl fun _ _ _ _ _ _ us hl => match us, hl with | [_, _], _ => rfl
theorem bd__law_pair : BindOk f__law_pair := bind_n rfl rfl fun _ _ _ _ _ _ us hl => match us, hl with | [_, _, _, _], _ => rfl
theorem bd__law_world : BindOk f__law_world := bind_n rfl rfl fun _ _ _ _ _ _ us hl => match us, hl with | [_], _ => rfl
theorem bd__law_rim : BindOk f__law_rim := bind_n rfl rfl fun _ _ _ _ _ _ us hl => match us, hl with | [_], _ => rfl
theorem bd__law_meant : BindOk f__law_meant := bind_n rfl rfl fun _ _ _ _ _ _ us hl => match us, hl with | [_, _], _ => rfl
theorem bd__law_name : BindOk f__law_name := bind_n rfl rfl fun _ _ _ _ _ _ us hl => match us, hl with | [_, _], _ => rfl
theorem bd__law_plain : BindOk f__law_plain := bind_n rfl rfl fun _ _ _ _ _ _ us hl => match us, hl with | [_, _, _, _], _ => rfl
theorem bd__law_script : BindOk f__law_script := bind_n rfl rfl fun _ _ _ _ _ _ us hl => match us, hl with | [_, _, _, _], _ => rfl
theorem bd__law_kinds : BindOk f__law_kinds := bind_n rfl rfl fun _ _ _ _ _ _ us hl => match us, hl with | [], _ => rfl
theorem bd__law_int : BindOk f__law_int := bind_n rfl rfl fun _ _ _ _ _ _ us hl => match us, hl with | [_, _, _], _ => rfl
theorem bd__law_is_part : BindOk f__law_is_part := bind_n rfl rfl fun _ _ _ _ _ _ us hl => match us, hl with | [_, _], _ => rfl
theorem bd__law_is_pair : BindOk f__law_is_pair := bind_n rfl rfl fun _ _ _ _ _ _ us hl => match us, hl with | [_, _, _], _ => rfl
theorem bd__law_is_world : BindOk f__law_is_world := bind_n rfl rfl fun _ _ _ _ _ _ us hl => match us, hl with | [_], _ => rfl
theorem bd__law_is_meant : BindOk f__law_is_meant := bind_n rfl rfl fun _ _ _ _ _ _ us hl => match us, hl with | [_, _], _ => rfl
theorem bd__law_is_plain : BindOk f__law_is_plain := bind_n rfl rfl fun _ _ _ _ _ _ us hl => match us, hl with | [_, _], _ => rfl
theorem bd__law_count : BindOk f__law_count := bind_n rfl rfl fun _ _ _ _ _ _ us hl => match us, hl with | [_, _], _ => rfl
theorem bd__law_is_script : BindOk f__law_is_script := bind_n rfl rfl fun _ _ _ _ _ _ us hl => match us, hl with | [_, _], _ => rfl
theorem bd__law_any_thing : BindOk f__law_any_thing := bind_n rfl rfl fun _ _ _ _ _ _ us hl => match us, hl with | [_, _], _ => rfl
theorem bd__law_spoiled : BindOk f__law_spoiled := bind_n rfl rfl fun _ _ _ _ _ _ us hl => match us, hl with | [_, _], _ => rfl
theorem bd__law_all_right : BindOk f__law_all_right := bind_n rfl rfl fun _ _ _ _ _ _ us hl => match us, hl with | [_, _], _ => rfl
theorem bd_law : BindOk f_law := bind_n rfl rfl fun _ _ _ _ _ _ us hl => match us, hl with | [_], _ => rfl
theorem bd_all : ∀ cf ∈ gi.fns, BindOk cf := by
  intro cf h
  have h : cf ∈ fns := h
  unfold fns at h
  rcases List.mem_cons.mp h with rfl | h
  · exact bd_common
  rcases List.mem_cons.mp h with rfl | h
  · exact bd_lowest
  rcases List.mem_cons.mp h with rfl | h
  · exact bd_is_less
  rcases List.mem_cons.mp h with rfl | h
  · exact bd_is_integer
  rcases List.mem_cons.mp h with rfl | h
  · exact bd_is_from
  rcases List.mem_cons.mp h with rfl | h
  · exact bd_is_tuple_of
  rcases List.mem_cons.mp h with rfl | h
  · exact bd_is_word
  rcases List.mem_cons.mp h with rfl | h
  · exact bd_is_any_fraction
  rcases List.mem_cons.mp h with rfl | h
  · exact bd_is_fraction
  rcases List.mem_cons.mp h with rfl | h
  · exact bd_is_between
  rcases List.mem_cons.mp h with rfl | h
  · exact bd_are_bounds
  rcases List.mem_cons.mp h with rfl | h
  · exact bd_is_tape
  rcases List.mem_cons.mp h with rfl | h
  · exact bd_is_world
  rcases List.mem_cons.mp h with rfl | h
  · exact bd_bounds_of
  rcases List.mem_cons.mp h with rfl | h
  · exact bd_names_of
  rcases List.mem_cons.mp h with rfl | h
  · exact bd_many_of
  rcases List.mem_cons.mp h with rfl | h
  · exact bd_is_values_of
  rcases List.mem_cons.mp h with rfl | h
  · exact bd_is_name
  rcases List.mem_cons.mp h with rfl | h
  · exact bd_is_mark
  rcases List.mem_cons.mp h with rfl | h
  · exact bd_is_plain
  rcases List.mem_cons.mp h with rfl | h
  · exact bd_is_body
  rcases List.mem_cons.mp h with rfl | h
  · exact bd_is_step
  rcases List.mem_cons.mp h with rfl | h
  · exact bd_all_steps
  rcases List.mem_cons.mp h with rfl | h
  · exact bd_is_script_of
  rcases List.mem_cons.mp h with rfl | h
  · exact bd_need_world
  rcases List.mem_cons.mp h with rfl | h
  · exact bd_is_values
  rcases List.mem_cons.mp h with rfl | h
  · exact bd_is_script
  rcases List.mem_cons.mp h with rfl | h
  · exact bd_unknowns
  rcases List.mem_cons.mp h with rfl | h
  · exact bd__law_jar
  rcases List.mem_cons.mp h with rfl | h
  · exact bd__law_dip
  rcases List.mem_cons.mp h with rfl | h
  · exact bd__law_any_of
  rcases List.mem_cons.mp h with rfl | h
  · exact bd__law_low
  rcases List.mem_cons.mp h with rfl | h
  · exact bd__law_add
  rcases List.mem_cons.mp h with rfl | h
  · exact bd__law_sub
  rcases List.mem_cons.mp h with rfl | h
  · exact bd__law_mul
  rcases List.mem_cons.mp h with rfl | h
  · exact bd__law_less
  rcases List.mem_cons.mp h with rfl | h
  · exact bd__law_pair
  rcases List.mem_cons.mp h with rfl | h
  · exact bd__law_world
  rcases List.mem_cons.mp h with rfl | h
  · exact bd__law_rim
  rcases List.mem_cons.mp h with rfl | h
  · exact bd__law_meant
  rcases List.mem_cons.mp h with rfl | h
  · exact bd__law_name
  rcases List.mem_cons.mp h with rfl | h
  · exact bd__law_plain
  rcases List.mem_cons.mp h with rfl | h
  · exact bd__law_script
  rcases List.mem_cons.mp h with rfl | h
  · exact bd__law_kinds
  rcases List.mem_cons.mp h with rfl | h
  · exact bd__law_int
  rcases List.mem_cons.mp h with rfl | h
  · exact bd__law_is_part
  rcases List.mem_cons.mp h with rfl | h
  · exact bd__law_is_pair
  rcases List.mem_cons.mp h with rfl | h
  · exact bd__law_is_world
  rcases List.mem_cons.mp h with rfl | h
  · exact bd__law_is_meant
  rcases List.mem_cons.mp h with rfl | h
  · exact bd__law_is_plain
  rcases List.mem_cons.mp h with rfl | h
  · exact bd__law_count
  rcases List.mem_cons.mp h with rfl | h
  · exact bd__law_is_script
  rcases List.mem_cons.mp h with rfl | h
  · exact bd__law_any_thing
  rcases List.mem_cons.mp h with rfl | h
  · exact bd__law_spoiled
  rcases List.mem_cons.mp h with rfl | h
  · exact bd__law_all_right
  rcases List.mem_cons.mp h with rfl | h
  · exact bd_law
  cases h
theorem chk : chkAll gi = true := by decide +kernel
def nm0 : List PySem.Str := ["LengthError", "InvalidWorld", "common", "lowest", "is_less", "CUT", "OUTER", "INNER", "JOIN", "HALF", "SPLIT", "READ", "AGAIN", "HOLD", "IF", "LONGER", "SAME", "SHORTER", "SEEN", "NAMES", "MOST_PART", "is_integer", "is_from", "is_tuple_of", "is_word", "is_any_fraction", "is_fraction", "is_between", "are_bounds", "is_tape"]
def nm1 : List PySem.Str := ["is_world", "bounds_of", "names_of", "many_of", "is_values_of", "is_name", "is_mark", "is_plain", "is_body", "is_step", "all_steps", "is_script_of", "need_world", "is_values", "is_script", "unknowns", "_law_jar", "_law_dip", "_law_any_of", "_law_low", "_law_add", "_law_sub", "_law_mul", "_law_less", "_law_pair", "_law_world", "_law_rim", "_law_meant", "_law_name", "_law_plain"]
def nm2 : List PySem.Str := ["_law_script", "_law_kinds", "_law_int", "_law_is_part", "_law_is_pair", "_law_is_world", "_law_is_meant", "_law_is_plain", "_law_count", "_law_is_script", "_law_any_thing", "_law_spoiled", "_law_all_right"]
def topNames : List PySem.Str := nm0 ++ nm1 ++ nm2
abbrev RR : PySem.W.OpenRow := PySem.W.OpenLaw.row PySem.Challenge.rw_copiedlengths_k01_worlds_values_and_scri
abbrev hk : PySem.W.Hook := He.hookX 4 gi.fa gi.fn [] [] gi.ex
def ob (s : PySem.W.SharedT) : He.AlX := He.obsX 4 gi.fa gi.fn [] [] gi.ex (HandSHeadRun.getT s)
theorem ob_eq (s : PySem.W.SharedT) : ob s = hk.obs s.abs := He.obsX_eq (HandSHeadRun.getT_eq s)
set_option maxHeartbeats 0 in
theorem run (w : World) : HandSHeadRun.RunEq RR (PySem.W.view RR.prog [77]) hk ob 4000 topNames w := by
  intro os
  kernel_rfl
end KK
end Rf
open PySem PySem.W PySem.Calls PyProof.Rows
set_option maxHeartbeats 0 in
theorem PySem.Challenge.cw_copiedlengths_k01_worlds_values_and_scri_holds : PySem.Challenge.rw_copiedlengths_k01_worlds_values_and_scri.Holds := by
  w_on; o_law
  refine HandSHeadRun.head_any (r := OpenLaw.row PySem.Challenge.rw_copiedlengths_k01_worlds_values_and_scri) (q := view (OpenLaw.row PySem.Challenge.rw_copiedlengths_k01_worlds_values_and_scri).prog [77]) (H := Rf.KK.hk) (ob := Rf.KK.ob) (M := 4000) (loose := Rf.KK.topNames) (d := HandSHeadRun.topDef (OpenLaw.row PySem.Challenge.rw_copiedlengths_k01_worlds_values_and_scri).prog 77) (kwd := []) Rf.KK.ob_eq
    (by kernel_rfl) (fun s => by kernel_rfl) Rf.KK.run (by kernel_rfl) (by kernel_rfl) (by kernel_rfl) (by rfl) (by first | assumption | decide +kernel) (by decide +kernel) ⟨rfl, rfl, rfl, rfl, rfl, by decide +kernel⟩ ?hw ?hc
  case hw => w_witness2
  case hc =>
    exact Rf.law_end (l := PySem.Challenge.rw_copiedlengths_k01_worlds_values_and_scri) (g := Rf.KK.gi) (k := 60) (f := 55) (cf := Rf.KK.f_law) (n := 63) (m := 4) rfl (by decide) (by kernel_rfl) ⟨rfl, by decide, by decide⟩ rfl rfl (by kernel_rfl) (List.mem_cons_self ..) Rf.KK.chk Rf.KK.bd_all Rf.KK.law_true
      (fun K adr fd F s u => L2.FunD.bindsA (ps := Rf.KK.f_law.ps) F (fun _ _ _ _ _ _ us hl => match us, hl with | [_], _ => rfl) s [u] rfl)

