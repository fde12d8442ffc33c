import PyProof.Rows.All
import PySem.Str
import Wide.All
import OpenK.AllK
import Wide.FinOn
import HandS.ForMost
import HandS.Exc
import HandS.Lambda
import HandS.Wide
import HandS.TupMul
import HandS.TupAny
import HandS.Style
import HandS.Text
import HandS.Deep
import HandS.Dict
import HandS.Steps
import HandS.WordsExc
import HandS.Records
import HandS.IsInst
import HandS.List
import HandS.More
import HandS.Small
import HandS.Iter
import HandS.Zip
import HandS.Walk
import HandS.Comp
import HandS.ExcOwn
import HandS.TryOnly
import HandS.HeadHook4
import HandS.Defaults
import HandS.EndTab
import HandS.HeadWalk
import HandS.AnyAll
import HandS.Head0
import HandS.Head1
import HandS.Head2
import HandS.HeadEnd
import PySem.Challenge.RW_knittold_k70_tracks_row_by_row
set_option Elab.async false
set_option linter.all false
set_option maxRecDepth 100000
set_option maxHeartbeats 0
section
/-! K, the core: data, expressions, statements, their plain meaning. -/
namespace Kn

/-- data, as values -/
inductive D where
  | non | bl (b : Bool) | int (i : Int) | str (x : List Nat) | lst (xs : List D) | tup (xs : List D) | dic (ks vs : List D)
  | scr (ns : List Int)

instance : Inhabited D := ⟨.non⟩

/-- what a slot holds: data that nobody changes any more, or an own list or dict -/
inductive PV where
  | imm (d : D) | own (d : D)
abbrev Env := List (Option PV)
/-- what an expression hands back: data; a new own object; the own object of a slot -/
inductive RV where
  | imm (d : D) | tmp (d : D) | slot (i : Nat)
inductive R (α : Type) where
  | ok (a : α) | exc (c : Nat) (p : D) | bad
def R.bind {α β : Type} (x : R α) (f : α → R β) : R β := match x with
  | .ok a => f a
  | .exc c p => .exc c p
  | .bad => .bad
instance : Monad R where
  pure := .ok
  bind := R.bind
def R.of {α : Type} : Option α → R α
  | some a => .ok a
  | none => .bad

/-- the longest list, the largest number of turns -/
def line : Nat := 16777216
def smB (i : Int) : Bool := decide (-16777216 ≤ i) && decide (i ≤ 16777216)

/-! ### reading and freezing -/
def rd (ρ : Env) : RV → Option D
  | .imm d => some d
  | .tmp d => some d
  | .slot i => match ρ[i]? with
    | some (some (.own d)) => some d
    | some (some (.imm d)) => some d
    | _ => none
/-- to hold while others are reckoned: a new object is frozen, an own one of a slot is looked at later -/
inductive HV where
  | d (d : D) | s (i : Nat)
def RV.hv : RV → HV
  | .imm d => .d d
  | .tmp d => .d d
  | .slot i => .s i
def rdH (ρ : Env) : HV → Option D
  | .d d => some d
  | .s i => match ρ[i]? with
    | some (some (.own d)) => some d
    | some (some (.imm d)) => some d
    | _ => none
/-- the same, the slots hd being out of sight: they needn't be frozen -/
def fzH (hd : List Nat) (ρ : Env) : RV → Option (D × Env)
  | .imm d => some (d, ρ)
  | .tmp d => some (d, ρ)
  | .slot i => match ρ[i]? with
    | some (some (.own d)) => some (d, if hd.contains i then ρ else ρ.set i (some (.imm d)))
    | some (some (.imm d)) => some (d, ρ)
    | _ => none
def fz (ρ : Env) : RV → Option (D × Env)
  | .imm d => some (d, ρ)
  | .tmp d => some (d, ρ)
  | .slot i => match ρ[i]? with
    | some (some (.own d)) => some (d, ρ.set i (some (.imm d)))
    | some (some (.imm d)) => some (d, ρ)
    | _ => none

/-! ### data's operations -/
mutual
/-- the same key: ints, texts, tuples of these -/
def D.isKey : D → D → Bool
  | .int i, .int j => i == j
  | .str x, .str y => x == y
  | .tup xs, .tup ys => D.isKeyL xs ys
  | _, _ => false
def D.isKeyL : List D → List D → Bool
  | [], [] => true
  | x :: xs, y :: ys => D.isKey x y && D.isKeyL xs ys
  | _, _ => false
end
def look (k : D) : List D → List D → Option D
  | x :: xs, v :: vs => if D.isKey k x then some v else look k xs vs
  | _, _ => none
mutual
def D.eqv : D → D → Bool
  | .non, .non => true
  | .bl a, .bl b => a == b
  | .bl a, .int j => (if a then 1 else 0) == j
  | .int i, .bl b => i == (if b then 1 else 0)
  | .int i, .int j => i == j
  | .str x, .str y => x == y
  | .lst xs, .lst ys => D.eqvL xs ys
  | .tup xs, .tup ys => D.eqvL xs ys
  | .dic ks vs, .dic ls ws => ks.length == ls.length && D.eqvK ks vs ls ws
  | _, _ => false
def D.eqvL : List D → List D → Bool
  | [], [] => true
  | x :: xs, y :: ys => D.eqv x y && D.eqvL xs ys
  | _, _ => false
def D.eqvK : List D → List D → List D → List D → Bool
  | k :: ks, v :: vs, ls, ws => (match look k ls ws with
    | some w => D.eqv v w
    | none => false) && D.eqvK ks vs ls ws
  | _, _, _, _ => true
end
mutual
/-- depth; a dict counts much -/
def D.dep : D → Nat
  | .lst xs => D.depL xs + 1
  | .tup xs => D.depL xs + 1
  | .dic _ _ => 1000
  | .scr _ => 1000
  | _ => 0
def D.depL : List D → Nat
  | [] => 0
  | x :: xs => max (D.dep x) (D.depL xs)
end
/-- == may be asked: no dicts, or two dicts of plain data, or two lists of such dicts -/
def eqOk0 (a b : D) : Bool := decide (a.dep ≤ 60) && decide (b.dep ≤ 60)
def flatB : D → Bool
  | .non => true
  | .bl _ => true
  | .int _ => true
  | .str _ => true
  | .tup xs => decide (D.depL xs ≤ 10)
  | _ => false
def eqOk (a b : D) : Bool := eqOk0 a b

def dkey0 : D → Bool
  | .int _ => true
  | .str _ => true
  | _ => false
def truth : D → Option Bool
  | .non => some false
  | .bl b => some b
  | .int i => some (i != 0)
  | .str x => if x.length ≤ line then some (!x.isEmpty) else none
  | .lst xs => some (!xs.isEmpty)
  | .tup xs => some (!xs.isEmpty)
  | .dic ks _ => if ks.all dkey0 then some (!ks.isEmpty) else none
  | .scr _ => none

/-- a place among n, of any sign -/
def ixN (n : Nat) (i : Int) : Option Nat := if 0 ≤ i then (if i < n then some i.toNat else none) else if -(n : Int) ≤ i then some (i + n).toNat else none
def atI {α : Type} (xs : List α) (i : Int) : Option α := (ixN xs.length i).bind fun j => xs[j]?
def sIx (n d : Nat) : Option Int → Nat
  | none => d
  | some v => if v < 0 then (v + (n : Int)).toNat else min v.toNat n
def cut {α : Type} (xs : List α) (lo hi : Option Int) : List α := (xs.drop (sIx xs.length 0 lo)).take (sIx xs.length xs.length hi - sIx xs.length 0 lo)
def rep {α : Type} (k : Nat) (xs : List α) : List α := (List.replicate k xs).flatten

inductive BOp where
  | add | sub | mul | fdiv | mod | pow
  deriving DecidableEq
def sm64 (i : Int) : Bool := decide (-18446744073709551616 < i) && decide (i < 18446744073709551616)
/-- the value, and whether it is a new list -/
def binop : BOp → D → D → Option (D × Bool)
  | .add, .int i, .int j => some (.int (i + j), false)
  | .add, .str x, .str y => if x.length + y.length ≤ line then some (.str (x ++ y), false) else none
  | .add, .lst x, .lst y => if x.length + y.length ≤ line then some (.lst (x ++ y), true) else none
  | .add, .tup x, .tup y => if x.length + y.length ≤ line then some (.tup (x ++ y), false) else none
  | .sub, .int i, .int j => some (.int (i - j), false)
  | .mul, .int i, .int j => if sm64 i || sm64 j || (decide (i.natAbs < 2 ^ 4000) && decide (j.natAbs < 2 ^ 4000)) then some (.int (i * j), false) else none
  | .mul, .str x, .int j => if smB j && decide (x.length * j.toNat ≤ line) then some (.str (rep j.toNat x), false) else none
  | .mul, .lst x, .int j => if smB j && decide (x.length * j.toNat ≤ line) then some (.lst (rep j.toNat x), true) else none
  | .mul, .tup x, .int j => if smB j && decide (x.length * j.toNat ≤ line) then some (.tup (rep j.toNat x), false) else none
  | .fdiv, .int i, .int j => if decide (j ≠ 0) && decide (j.natAbs < 1073741824) then some (.int (i.fdiv j), false) else none
  | .mod, .int i, .int j => if j ≠ 0 then some (.int (i.fmod j), false) else none
  | .pow, .int i, .int j => if decide (0 ≤ j) && decide (j ≤ 1000000) && decide (i.natAbs < 1000000) then some (.int (i ^ j.toNat), false) else none
  | _, _, _ => none

/-- a op= b -/
def augop : BOp → D → D → Option D
  | .add, .int i, .int j => some (.int (i + j))
  | .add, .str x, .str y => if x.length + y.length ≤ line then some (.str (x ++ y)) else none
  | .sub, .int i, .int j => some (.int (i - j))
  | .mul, .int i, .int j => if sm64 i || sm64 j then some (.int (i * j)) else none
  | .fdiv, .int i, .int j => if decide (0 < j) && decide (j < 1073741824) then some (.int (i / j)) else none
  | .mod, .int i, .int j => if 0 < j then some (.int (i % j)) else none
  | _, _, _ => none
inductive COp where
  | lt | le | gt | ge | eq | ne | isin | notin
  deriving DecidableEq
def isDic : D → Bool
  | .dic _ _ => true
  | _ => false
def isTup : D → Bool
  | .tup _ => true
  | _ => false
/-- a key of a dict: an int, a text, a tuple of these -/
def dkey : D → Bool
  | .tup xs => xs.all dkey0
  | d => dkey0 d
/-- the keys are of one make with k -/
def dkeys (k : D) (ks : List D) : Bool := dkey0 k && ks.all dkey0
def cmpop : COp → D → D → Option Bool
  | .lt, .int i, .int j => some (decide (i < j))
  | .le, .int i, .int j => some (decide (i ≤ j))
  | .gt, .int i, .int j => some (decide (j < i))
  | .ge, .int i, .int j => some (decide (j ≤ i))
  | .eq, a, b => if eqOk a b then some (D.eqv a b) else none
  | .ne, a, b => if eqOk a b then some (!D.eqv a b) else none
  | .isin, .str [c], .str x => some (x.contains c)
  | .notin, .str [c], .str x => some (!x.contains c)
  | .isin, a, .lst xs => if decide (a.dep ≤ 60) && xs.all (fun x => decide (x.dep ≤ 60)) then some (xs.any fun x => D.eqv x a) else none
  | .notin, a, .lst xs => if decide (a.dep ≤ 60) && xs.all (fun x => decide (x.dep ≤ 60)) then some (!xs.any fun x => D.eqv x a) else none
  | .isin, a, .tup xs => if decide (a.dep ≤ 60) && xs.all (fun x => decide (x.dep ≤ 60)) then some (xs.any fun x => D.eqv x a) else none
  | .notin, a, .tup xs => if decide (a.dep ≤ 60) && xs.all (fun x => decide (x.dep ≤ 60)) then some (!xs.any fun x => D.eqv x a) else none
  | .isin, a, .dic ks vs => if dkeys a ks then some (look a ks vs).isSome else none
  | .notin, a, .dic ks vs => if dkeys a ks then some (!(look a ks vs).isSome) else none
  | _, _, _ => none

inductive Lit where
  | non | bl (b : Bool) | int (i : Int) | str (x : List Nat)
def Lit.d : Lit → D
  | .non => .non
  | .bl b => .bl b
  | .int i => .int i
  | .str x => .str x
def isLit : Lit → D → Option Bool
  | .non, .non => some true
  | .non, _ => some false
  | .bl b, .bl c => some (b == c)
  | .bl _, _ => some false
  | _, _ => none

def indexD : D → D → Option (D × Bool)
  | .lst xs, .int i => (atI xs i).map fun d => (d, false)
  | .tup xs, .int i => (atI xs i).map fun d => (d, false)
  | .str x, .int i => if x.length ≤ line then (atI x i).map fun c => (.str [c], false) else none
  | .dic ks vs, k => if dkeys k ks then (look k ks vs).map fun d => (d, false) else none
  | _, _ => none
def sliceD : D → Option Int → Option Int → Option (D × Bool)
  | .lst xs, lo, hi => some (.lst (cut xs lo hi), true)
  | .tup xs, lo, hi => some (.tup (cut xs lo hi), false)
  | .str x, lo, hi => if x.length ≤ line then some (.str (cut x lo hi), false) else none
  | _, _, _ => none
def revD : D → Option (D × Bool)
  | .lst xs => some (.lst xs.reverse, true)
  | .tup xs => some (.tup xs.reverse, false)
  | .str x => some (.str x.reverse, false)
  | _ => none

/-! ### order -/
mutual
/-- a < b where both are of one make; none: not asked here -/
def D.lt : D → D → Bool
  | .int i, .int j => decide (i < j)
  | .str x, .str y => decide (x < y)
  | .tup xs, .tup ys => D.ltL xs ys
  | _, _ => false
def D.ltL : List D → List D → Bool
  | _, [] => false
  | [], _ :: _ => true
  | x :: xs, y :: ys => if D.eqv x y then D.ltL xs ys else D.lt x y
end
mutual
/-- of one make, so that < may be asked -/
def D.alike : D → D → Bool
  | .int _, .int _ => true
  | .str _, .str _ => true
  | .tup xs, .tup ys => D.alikeL xs ys
  | _, _ => false
def D.alikeL : List D → List D → Bool
  | x :: xs, y :: ys => D.alike x y && D.alikeL xs ys
  | _, _ => true
end
def ins (a : D) : List D → List D
  | [] => [a]
  | b :: r => if D.lt b a then b :: ins a r else a :: b :: r
def sortD : List D → List D
  | [] => []
  | a :: r => ins a (sortD r)
def dedup : List D → List D
  | [] => []
  | a :: r => a :: (dedup r).filter fun b => !D.eqv a b
def minD : List D → Option D
  | [] => none
  | a :: r => some (r.foldl (fun m x => if D.lt x m then x else m) a)
def maxD : List D → Option D
  | [] => none
  | a :: r => some (r.foldl (fun m x => if D.lt m x then x else m) a)
def allAlike (xs : List D) : Bool := xs.all fun a => xs.all fun b => D.alike a b
def allInt : List D → Option (List Int)
  | [] => some []
  | .int i :: r => (allInt r).map (i :: ·)
  | _ => none
def allBl : List D → Option (List Bool)
  | [] => some []
  | .bl i :: r => (allBl r).map (i :: ·)
  | _ => none
def allStr : List D → Option (List (List Nat))
  | [] => some []
  | .str i :: r => (allStr r).map (i :: ·)
  | _ => none

/-! ### dicts -/
def hasKey (k : D) (ks : List D) : Bool := ks.any fun x => D.isKey k x
def putVs (k v : D) : List D → List D → List D
  | x :: xs, w :: ws => if D.isKey k x then v :: putVs k v xs ws else w :: putVs k v xs ws
  | _, ws => ws
def putD (k v : D) (ks vs : List D) : List D × List D := if hasKey k ks then (ks, putVs k v ks vs) else (ks ++ [k], vs ++ [v])

/-! ### built-in functions and methods -/
inductive BI where
  | len | int | str | abs | sum | min2 | max2 | min3 | min | max | sorted | list | tuple | dict | all | any | lenset | sortset | bool | listrange | listitems | listvals | sortitems | sumvals
  deriving DecidableEq
def strItems (x : List Nat) : List D := x.map fun c => .str [c]
def showNat (n : Nat) : List Nat := (toString n).toList.map Char.toNat
def showInt (i : Int) : List Nat := if i < 0 then 45 :: showNat i.natAbs else showNat i.natAbs
def digit (c : Nat) : Option Nat := if 48 ≤ c ∧ c ≤ 57 then some (c - 48) else none
def readNat : List Nat → Nat → Option Nat
  | [], a => some a
  | c :: r, a => (digit c).bind fun d => readNat r (10 * a + d)
def zipD : List D → List D → List D
  | x :: xs, y :: ys => .tup [x, y] :: zipD xs ys
  | _, _ => []
/-- what is walked: a list, a tuple, a text, a dict's keys -/
def itemsOf : D → Option (List D)
  | .lst xs => some xs
  | .tup xs => some xs
  | .str x => some (strItems x)
  | .dic ks _ => some ks
  | .scr ns => some (ns.map .int)
  | _ => none
def dictOf : List D → List D → List D → Option (List D × List D)
  | [], ks, vs => some (ks, vs)
  | .tup [k, v] :: r, ks, vs => if dkey k then dictOf r (putD k v ks vs).1 (putD k v ks vs).2 else none
  | _, _, _ => none
/-- the turns of range(a, b, c) -/
def rng (a b c : Int) : List D := (List.range (if 0 < c then ((b - a + c - 1) / c).toNat else if c < 0 then ((a - b - c - 1) / (-c)).toNat else 0)).map fun (k : Nat) => D.int (a + k * c)

def minI (n : Int) (ns : List Int) : Int := ns.foldl (fun m x => if x < m then x else m) n
def maxI (n : Int) (ns : List Int) : Int := ns.foldl (fun m x => if m < x then x else m) n
def biop : BI → List D → Option (D × Bool)
  | .len, [d] => match d with
    | .str x => if x.length ≤ line then some (.int x.length, false) else none
    | .lst x => some (.int x.length, false)
    | .tup x => some (.int x.length, false)
    | .dic ks _ => if ks.all dkey0 then some (.int ks.length, false) else none
    | _ => none
  | .int, [d] => match d with
    | .int i => some (.int i, false)
    | .bl b => some (.int (if b then 1 else 0), false)
    | _ => none
  | .bool, [d] => match d with
    | .int i => some (.bl (i != 0), false)
    | .bl b => some (.bl b, false)
    | .lst xs => some (.bl (!xs.isEmpty), false)
    | _ => none
  | .str, [.int i] => if decide (i.natAbs < 1000000000000000000) then some (.str (showInt i), false) else none
  | .abs, [.int i] => some (.int (if i < 0 then -i else i), false)
  | .sum, [.lst xs] => (allInt xs).map fun ns => (.int ns.sum, false)
  | .min2, [.int i, .int j] => some (.int (if j < i then j else i), false)
  | .max2, [.int i, .int j] => some (.int (if j > i then j else i), false)
  | .min3, [.int i, .int j, .int k] => some (.int (if k < (if j < i then j else i) then k else (if j < i then j else i)), false)
  | .min, [.lst xs] => match allInt xs with
    | some (n :: ns) => some (.int (minI n ns), false)
    | _ => none
  | .max, [.lst xs] => match allInt xs with
    | some (n :: ns) => some (.int (maxI n ns), false)
    | _ => none
  | .sorted, [d] => match itemsOf d with
    | some xs => if allAlike xs then some (.lst (sortD xs), true) else none
    | none => none
  | .list, [d] => match d with
    | .lst xs => some (.lst xs, true)
    | .tup xs => some (.lst xs, true)
    | .scr ns => some (.lst (ns.map .int), true)
    | .dic ks _ => if ks.all dkey0 then some (.lst ks, true) else none
    | _ => none
  | .tuple, [d] => match d with
    | .lst xs => some (.tup xs, false)
    | .tup xs => some (.tup xs, false)
    | _ => none
  | .dict, [d] => match d with
    | .dic ks vs => some (.dic ks vs, true)
    | .lst xs => (dictOf xs [] []).map fun p => (.dic p.1 p.2, true)
    | _ => none
  | .all, [.lst xs] => (allBl xs).map fun bs => (.bl (bs.all id), false)
  | .any, [.lst xs] => (allBl xs).map fun bs => (.bl (bs.any id), false)
  | .lenset, [d] => match itemsOf d with
    | some xs => if allAlike xs then some (.int (dedup xs).length, false) else none
    | none => none
  | .sortset, [d] => match itemsOf d with
    | some xs => if allAlike xs then some (.lst (sortD (dedup xs)), true) else none
    | none => none
  | .listitems, [.dic ks vs] => some (.lst (zipD ks vs), true)
  | .listvals, [.dic _ vs] => some (.lst vs, true)
  | .sumvals, [.dic _ vs] => (allInt vs).map fun ns => (.int ns.sum, false)
  | .listrange, [.int a] => if smB a then some (.lst (rng 0 a 1), true) else none
  | .listrange, [.int a, .int b] => if smB a && smB b then some (.lst (rng a b 1), true) else none
  | .listrange, [.int a, .int b, .int c] => if smB a && smB b && smB c && decide (c ≠ 0) then some (.lst (rng a b c), true) else none
  | .sortitems, [.dic ks vs] => if allAlike (zipD ks vs) then some (.lst (sortD (zipD ks vs)), true) else none
  | _, _ => none
inductive MT where
  | join | count | split | endswith
  deriving DecidableEq
def joinT (sep : List Nat) : List (List Nat) → List Nat
  | [] => []
  | [x] => x
  | x :: y :: r => x ++ (sep ++ joinT sep (y :: r))
def countD (y : D) (xs : List D) : Nat := (xs.filter fun x => D.eqv x y).length
def idxD (y : D) : List D → Nat → Option Nat
  | [], _ => none
  | x :: xs, k => if D.eqv x y then some k else idxD y xs (k + 1)
/-- the parts of x between the signs c -/
def splitC (c : Nat) : List Nat → List Nat → List (List Nat)
  | acc, [] => [acc]
  | acc, d :: r => if d = c then acc :: splitC c [] r else splitC c (acc ++ [d]) r
/-- a text's methods -/
def mtop : MT → List Nat → D → Option (D × Bool)
  | .join, sep, .lst xs => match allStr xs with
    | some ts => if (ts.map List.length).sum + ts.length * sep.length ≤ 16777216 then some (.str (joinT sep ts), false) else none
    | none => none
  | .join, sep, .tup xs => match allStr xs with
    | some ts => if (ts.map List.length).sum + ts.length * sep.length ≤ 16777216 then some (.str (joinT sep ts), false) else none
    | none => none
  | .count, x, .str [c] => if x.length ≤ 1000000 then some (.int (x.count c), false) else none
  | .split, x, .str [c] => if x.length ≤ 1000000 ∧ c < 128 then some (.lst ((splitC c [] x).map .str), true) else none
  | .endswith, x, .str y => some (.bl (y.isSuffixOf x), false)
  | _, _, _ => none

/-! ### types -/
inductive Ty where
  | int | bool | str | list | tuple | dict
  deriving DecidableEq
def isTy : Ty → D → Bool
  | .int, .int _ => true
  | .int, .bl _ => true
  | .bool, .bl _ => true
  | .str, .str _ => true
  | .list, .lst _ => true
  | .list, .scr _ => true
  | .tuple, .tup _ => true
  | .dict, .dic _ _ => true
  | _, _ => false

def isiOk : D → Bool
  | .dic ks _ => ks.all dkey0
  | _ => true
/-! ### the core language -/
inductive TG where
  | n (i : Nat) | t (ts : List TG)
mutual
inductive CE where
  | v (i : Nat)
  | k (l : Lit)
  | g (j : Nat)
  | bin (o : BOp) (a b : CE)
  | neg (a : CE)
  | nt (a : CE)
  | cmp (o : COp) (a b : CE)
  | chn (o p : COp) (a b c : CE)
  | isl (ng : Bool) (l : Lit) (a : CE)
  | isi (ts : List Ty) (a : CE)
  | and (a b : CE)
  | or (a b : CE)
  | ite (c a b : CE)
  | lst (es : CL)
  | tup (es : CL)
  | dic (ps : CP)
  | tr (a : CE)
  | ix (a b : CE)
  | sl (a : CE) (lo hi : CO)
  | rev (a : CE)
  | call (f : Nat) (es : CL)
  | cio (f : Nat) (i : Nat) (es : CL)
  | bi (b : BI) (es : CL)
  | mt (m : MT) (a b : CE)
  | pop (i : Nat)
  | popi (i : Nat) (a : CE)
  | lc (own : List Nat) (t : TG) (s : CI) (c : CO) (e : CE)
  | lc2 (own own1 : List Nat) (t : TG) (s : CI) (t1 : TG) (s1 : CI) (c : CO) (e : CE)
  | dc (own : List Nat) (t : TG) (s : CI) (c : CO) (k v : CE)
  | gen (al : Bool) (fv : List Nat) (i : Nat) (s e : CE)
  | gen2 (all : Bool) (fv own : List Nat) (t : TG) (s : CI) (t1 : TG) (s1 : CI) (e : CE)
  | told (m : Nat) (fv : List Nat) (e : CE)
  | fstr (a : CE) (x : List Nat)
  | un
inductive CO where
  | no | so (e : CE)
inductive CL where
  | nil | cons (e : CE) (es : CL)
inductive CP where
  | nil | cons (k v : CE) (r : CP)
inductive CI where
  | ex (e : CE) | r1 (a : CE) | r2 (a b : CE) | r3 (a b c : CE) | enum (e : CE) | zip (a b : CE) | ezip (a b : CE) | items (e : CE) | vals (e : CE) | un
end
mutual
inductive CS where
  | set (i : Nat) (e : CE)
  | ust (t : TG) (e : CE)
  | par (is : List Nat) (es : CL)
  | aug (i : Nat) (o : BOp) (e : CE)
  | app (i : Nat) (e : CE)
  | sti (i : Nat) (b e : CE)
  | sls (i : Nat) (lo hi e : CE)
  | iff (c : CE) (a b : CB)
  | for_ (t : TG) (s : CI) (b : CB)
  | whl (c : CE) (b : CB)
  | ret (e : CE)
  | rai (c : Nat) (e : CO)
  | brk
  | cont
  | pass
  | un
inductive CB where
  | e | c (s : CS) (b : CB)
end

/-! ### targets -/
mutual
def bindT : TG → D → Env → Option Env
  | .n i, d, ρ => if i < ρ.length then some (ρ.set i (some (.imm d))) else none
  | .t ts, .tup ds, ρ => bindTs ts ds ρ
  | .t _, _, _ => none
def bindTs : List TG → List D → Env → Option Env
  | [], [], ρ => some ρ
  | t :: ts, d :: ds, ρ => (bindT t d ρ).bind fun ρ' => bindTs ts ds ρ'
  | _, _, _ => none
end
def wipe (ρ : Env) : List Nat → Env
  | [] => ρ
  | v :: vs => (wipe ρ vs).set v none
/-- the slots vs of ρ as they are in ρ₀ -/
def unwipe (ρ₀ ρ : Env) : List Nat → Env
  | [] => ρ
  | v :: vs => (unwipe ρ₀ ρ vs).set v (ρ₀[v]?.getD none)
/-- no own objects but those frozen -/
def mask (ρ : Env) : Env := ρ.map fun o => match o with
  | some (.own _) => none
  | o => o
def fzAll (ρ : Env) : List Nat → Env
  | [] => ρ
  | v :: vs => match (fzAll ρ vs)[v]? with
    | some (some (.own d)) => (fzAll ρ vs).set v (some (.imm d))
    | _ => fzAll ρ vs

/-! ### loops -/
def lcLoop (turn : D → Env → R (Option D × Env)) : List D → Env → List D → R (List D × Env)
  | [], ρ, acc => .ok (acc, ρ)
  | d :: ds, ρ, acc => (turn d ρ).bind fun p => match p.1 with
    | some y => lcLoop turn ds p.2 (acc ++ [y])
    | none => lcLoop turn ds p.2 acc
def accLoop (turn : D → Env → List D → R (List D × Env)) : List D → Env → List D → R (List D × Env)
  | [], ρ, acc => .ok (acc, ρ)
  | d :: ds, ρ, acc => (turn d ρ acc).bind fun p => accLoop turn ds p.2 p.1
/-- until the test is e -/
def genLoop (e : Bool) (turn : D → Env → R (Bool × Env)) : List D → Env → R (Bool × Env)
  | [], ρ => .ok (!e, ρ)
  | d :: ds, ρ => (turn d ρ).bind fun p => if p.1 = e then .ok (e, p.2) else genLoop e turn ds p.2
/-- a test's value -/
def testR : R (RV × Env) → R Bool
  | .ok (.imm (.bl b), _) => .ok b
  | .ok (.imm (.int k), _) => .ok (k != 0)
  | _ => .bad
/-- all tests -/
def genBs (turn : D → R Bool) : List D → R (List Bool)
  | [] => .ok []
  | d :: ds => if isDic d then .bad else (turn d).bind fun b => (genBs turn ds).bind fun r => .ok (b :: r)
def dcLoop (turn : D → Env → R (Option (D × D) × Env)) : List D → Env → List D → List D → R ((List D × List D) × Env)
  | [], ρ, ks, vs => .ok ((ks, vs), ρ)
  | d :: ds, ρ, ks, vs => (turn d ρ).bind fun p => match p.1 with
    | some y => if dkey y.1 then dcLoop turn ds p.2 (putD y.1 y.2 ks vs).1 (putD y.1 y.2 ks vs).2 else .bad
    | none => dcLoop turn ds p.2 ks vs
/-- a function: the arguments' data, to: a new list?, the value; the first argument behind it -/
abbrev Fn := List D → R ((Bool × D) × D)
/-- nothing is raised from within -/
def R.calm {α : Type} : R α → R α
  | .exc _ _ => .bad
  | x => x
/-- what a told error is -/
def toldEx : Nat → Nat → D → Option D
  | 0, 0, _ => some (.tup [.str [33], .str [110, 111, 110, 101]])
  | 1, 2, p => some (.tup [.str [33], .str [98, 97, 100], p])
  | 2, 0, _ => some (.tup [.str [33], .str [110, 111, 110, 101]])
  | 2, 1, _ => some (.tup [.str [33], .str [108, 97, 114, 103, 101]])
  | _, _, _ => none

section
variable (GD : Nat → D) (F : Nat → Fn)
mutual
def den : CE → Env → R (RV × Env)
  | .v i, ρ => match ρ[i]? with
    | some (some (.imm d)) => .ok (.imm d, ρ)
    | some (some (.own _)) => .ok (.slot i, ρ)
    | _ => .bad
  | .k l, ρ => .ok (.imm l.d, ρ)
  | .g j, ρ => .ok (.imm (GD j), ρ)
  | .bin o a b, ρ => (den a ρ).bind fun x => (den b x.2).bind fun y => (R.of (rdH y.2 x.1.hv)).bind fun dx => (R.of (rd y.2 y.1)).bind fun dy =>
      (R.of (binop o dx dy)).bind fun r => .ok (if r.2 then .tmp r.1 else .imm r.1, y.2)
  | .neg a, ρ => (den a ρ).bind fun x => match rd x.2 x.1 with
    | some (.int i) => .ok (.imm (.int (-i)), x.2)
    | _ => .bad
  | .nt a, ρ => (den a ρ).bind fun x => match rd x.2 x.1 with
    | some (.bl b) => .ok (.imm (.bl (!b)), x.2)
    | _ => .bad
  | .cmp o a b, ρ => (den a ρ).bind fun x => (den b x.2).bind fun y => (R.of (rdH y.2 x.1.hv)).bind fun dx => (R.of (rd y.2 y.1)).bind fun dy =>
      (R.of (cmpop o dx dy)).bind fun r => .ok (.imm (.bl r), y.2)
  | .chn o p a b c, ρ => (den a ρ).bind fun x => (den b x.2).bind fun y => (R.of (rdH y.2 x.1.hv)).bind fun dx => (R.of (rd y.2 y.1)).bind fun dy =>
      (R.of (cmpop o dx dy)).bind fun r => if r then (den c y.2).bind fun z => (R.of (rdH z.2 y.1.hv)).bind fun dy' => (R.of (rd z.2 z.1)).bind fun dz =>
        (R.of (cmpop p dy' dz)).bind fun r' => .ok (.imm (.bl r'), z.2) else .ok (.imm (.bl false), y.2)
  | .isl ng l a, ρ => (den a ρ).bind fun x => (R.of (rd x.2 x.1)).bind fun d => (R.of (isLit l d)).bind fun b => .ok (.imm (.bl (b != ng)), x.2)
  | .isi ts a, ρ => (den a ρ).bind fun x => (R.of (rd x.2 x.1)).bind fun d => if isiOk d then .ok (.imm (.bl (ts.any fun t => isTy t d)), x.2) else .bad
  | .and a b, ρ => (den a ρ).bind fun x => match rd x.2 x.1 with
    | some (.bl true) => den b x.2
    | some (.bl false) => .ok (.imm (.bl false), x.2)
    | _ => .bad
  | .or a b, ρ => (den a ρ).bind fun x => match rd x.2 x.1 with
    | some (.bl true) => .ok (.imm (.bl true), x.2)
    | some (.bl false) => den b x.2
    | _ => .bad
  | .ite c a b, ρ => (denB c ρ).bind fun x => if x.1 then den a x.2 else den b x.2
  | .lst es, ρ => (denF es ρ).bind fun x => .ok (.tmp (.lst x.1), x.2)
  | .tup es, ρ => (denF es ρ).bind fun x => .ok (.imm (.tup x.1), x.2)
  | .dic ps, ρ => (denD ps ρ [] []).bind fun x => .ok (.tmp (.dic x.1.1 x.1.2), x.2)
  | .tr _, _ => .bad
  | .un, _ => .bad
  | .ix a b, ρ => (den a ρ).bind fun x => (den b x.2).bind fun y => (R.of (rdH y.2 x.1.hv)).bind fun dx => (R.of (rd y.2 y.1)).bind fun dy =>
      (R.of (indexD dx dy)).bind fun r => .ok (.imm r.1, y.2)
  | .sl a lo hi, ρ => (den a ρ).bind fun x => (denO lo x.2).bind fun y => (denO hi y.2).bind fun z => (R.of (rdH z.2 x.1.hv)).bind fun dx =>
      (R.of (sliceD dx y.1 z.1)).bind fun r => .ok (if r.2 then .tmp r.1 else .imm r.1, z.2)
  | .rev a, ρ => (den a ρ).bind fun x => (R.of (rd x.2 x.1)).bind fun dx => (R.of (revD dx)).bind fun r => .ok (if r.2 then .tmp r.1 else .imm r.1, x.2)
  | .call f es, ρ => (denF es ρ).bind fun x => (F f x.1).bind fun r => .ok (if r.1.1 then .tmp r.1.2 else .imm r.1.2, x.2)
  | .cio f i es, ρ => match ρ[i]? with
    | some (some (.own _)) => (denF es ρ).bind fun x => match x.2[i]? with
      | some (some (.own b)) => (F f (b :: x.1)).bind fun r => .ok (if r.1.1 then .tmp r.1.2 else .imm r.1.2, x.2.set i (some (.own r.2)))
      | _ => .bad
    | _ => .bad
  | .bi b es, ρ => (denR es ρ).bind fun x => (R.of (biop b x.1)).bind fun r => .ok (if r.2 then .tmp r.1 else .imm r.1, x.2)
  | .mt m a b, ρ => (den a ρ).bind fun y => match y.1 with
    | .imm (.str t) => (den b y.2).bind fun x => (R.of (rd x.2 x.1)).bind fun d => (R.of (mtop m t d)).bind fun r => .ok (if r.2 then .tmp r.1 else .imm r.1, x.2)
    | _ => .bad
  | .pop i, ρ => match ρ[i]? with
    | some (some (.own (.lst xs))) => match xs.getLast? with
      | some d => .ok (.imm d, ρ.set i (some (.own (.lst xs.dropLast))))
      | none => .bad
    | _ => .bad
  | .popi i a, ρ => match ρ[i]? with
    | some (some (.own (.lst _))) => (den a ρ).bind fun x => match x.2[i]? with
      | some (some (.own (.lst xs))) => match rd x.2 x.1 with
        | some (.int j) => match (if smB j then ixN xs.length j else none) with
          | some m => match xs[m]? with
            | some d => .ok (.imm d, x.2.set i (some (.own (.lst (xs.eraseIdx m)))))
            | none => .bad
          | none => .bad
        | _ => .bad
      | _ => .bad
    | _ => .bad
  | .lc own t s c e, ρ => (denI own s ρ).bind fun x => if x.1.length ≤ line then R.calm ((lcLoop (fun d ρ₁ => (R.of (bindT t d (wipe ρ₁ own))).bind fun ρ₂ => (denT c ρ₂).bind fun b =>
      if b.1 then (den e b.2).bind fun y => (R.of (fz y.2 y.1)).bind fun z => .ok (some z.1, z.2) else .ok (none, b.2)) x.1 (wipe x.2 own) []).bind fun r => .ok (.tmp (.lst r.1), unwipe x.2 r.2 own)) else .bad
  | .lc2 own own1 t s t1 s1 c e, ρ => (denI own s ρ).bind fun x => R.calm ((accLoop (fun d ρ₁ acc => (R.of (bindT t d (wipe ρ₁ own))).bind fun ρ₂ => (denI [] s1 ρ₂).bind fun x1 =>
      lcLoop (fun d1 ρ₃ => (R.of (bindT t1 d1 (wipe ρ₃ own1))).bind fun ρ₄ => (denT c ρ₄).bind fun b =>
        if b.1 then (den e b.2).bind fun y => (R.of (fz y.2 y.1)).bind fun z => .ok (some z.1, z.2) else .ok (none, b.2)) x1.1 x1.2 acc) x.1 (wipe x.2 own) []).bind
          fun r => .ok (.tmp (.lst r.1), unwipe x.2 r.2 own))
  | .dc own t s c k v, ρ => (denI own s ρ).bind fun x => R.calm ((dcLoop (fun d ρ₁ => (R.of (bindT t d (wipe ρ₁ own))).bind fun ρ₂ => (denT c ρ₂).bind fun b =>
      if b.1 then (den k b.2).bind fun y => (R.of (fz y.2 y.1)).bind fun z => (den v z.2).bind fun y' => (R.of (fz y'.2 y'.1)).bind fun z' => .ok (some (z.1, z'.1), z'.2) else .ok (none, b.2)) x.1 (wipe x.2 own) [] []).bind
        fun r => .ok (.tmp (.dic r.1.1 r.1.2), unwipe x.2 r.2 own))
  | .gen al fv i s e, ρ => (den s ρ).bind fun x => (R.of (fz x.2 x.1)).bind fun z => if isDic z.1 then .bad else (R.of (itemsOf z.1)).bind fun ds =>
      (genBs (fun d => testR (den e ((mask (fzAll z.2 fv)).set i (some (.imm d))))) ds).bind fun bs => .ok (.imm (.bl (if al then bs.all id else bs.any id)), fzAll z.2 fv)
  | .gen2 al fv own t s t1 s1 e, ρ => (denI [] s ρ).bind fun x => R.calm ((genLoop (!al) (fun d ρ₁ => (R.of (bindT t d (wipe ρ₁ own))).bind fun ρ₂ => (denI [] s1 ρ₂).bind fun x1 =>
      genLoop (!al) (fun d1 ρ₃ => (R.of (bindT t1 d1 ρ₃)).bind fun ρ₄ => denB e ρ₄) x1.1 x1.2) x.1 (wipe (mask (fzAll x.2 fv)) own)).bind fun r => .ok (.imm (.bl r.1), fzAll x.2 fv))
  | .told m fv e, ρ => match den e (mask (fzAll ρ fv)) with
    | .ok x => match fz x.2 x.1 with
      | some z => .ok (.imm z.1, fzAll ρ fv)
      | none => .bad
    | .exc c p => match toldEx m c p with
      | some d => .ok (.imm d, fzAll ρ fv)
      | none => .bad
    | .bad => .bad
  | .fstr a x, ρ => (den a ρ).bind fun y => match rd y.2 y.1 with
    | some (.int i) => if decide (i.natAbs < 1000000000000000000) then .ok (.imm (.str (showInt i ++ x)), y.2) else .bad
    | _ => .bad
/-- a test -/
def denB : CE → Env → R (Bool × Env)
  | .nt a, ρ => (denB a ρ).bind fun x => .ok (!x.1, x.2)
  | .and a b, ρ => (denB a ρ).bind fun x => if x.1 then denB b x.2 else .ok (false, x.2)
  | .or a b, ρ => (denB a ρ).bind fun x => if x.1 then .ok (true, x.2) else denB b x.2
  | .tr a, ρ => (den a ρ).bind fun x => (R.of (rd x.2 x.1)).bind fun d => (R.of (truth d)).bind fun b => .ok (b, x.2)
  | .cmp o a b, ρ => (den a ρ).bind fun x => (den b x.2).bind fun y => (R.of (rdH y.2 x.1.hv)).bind fun dx => (R.of (rd y.2 y.1)).bind fun dy =>
      (R.of (cmpop o dx dy)).bind fun r => .ok (r, y.2)
  | .chn o p a b c, ρ => (den a ρ).bind fun x => (den b x.2).bind fun y => (R.of (rdH y.2 x.1.hv)).bind fun dx => (R.of (rd y.2 y.1)).bind fun dy =>
      (R.of (cmpop o dx dy)).bind fun r => if r then (den c y.2).bind fun z => (R.of (rdH z.2 y.1.hv)).bind fun dy' => (R.of (rd z.2 z.1)).bind fun dz =>
        (R.of (cmpop p dy' dz)).bind fun r' => .ok (r', z.2) else .ok (false, y.2)
  | .isl ng l a, ρ => (den a ρ).bind fun x => (R.of (rd x.2 x.1)).bind fun d => (R.of (isLit l d)).bind fun b => .ok (b != ng, x.2)
  | _, _ => .bad
def denT : CO → Env → R (Bool × Env)
  | .no, ρ => .ok (true, ρ)
  | .so e, ρ => denB e ρ
/-- a slice's part -/
def denO : CO → Env → R (Option Int × Env)
  | .no, ρ => .ok (none, ρ)
  | .so e, ρ => (den e ρ).bind fun x => match rd x.2 x.1 with
    | some (.int i) => .ok (some i, x.2)
    | _ => .bad
/-- each frozen -/
def denF : CL → Env → R (List D × Env)
  | .nil, ρ => .ok ([], ρ)
  | .cons e es, ρ => (den e ρ).bind fun x => (R.of (fz x.2 x.1)).bind fun z => (denF es z.2).bind fun r => .ok (z.1 :: r.1, r.2)
/-- each read at the end -/
def denR : CL → Env → R (List D × Env)
  | .nil, ρ => .ok ([], ρ)
  | .cons e es, ρ => (den e ρ).bind fun x => (denR es x.2).bind fun r => (R.of (rdH r.2 x.1.hv)).bind fun d => .ok (d :: r.1, r.2)
def denD : CP → Env → List D → List D → R ((List D × List D) × Env)
  | .nil, ρ, ks, vs => .ok ((ks, vs), ρ)
  | .cons k v r, ρ, ks, vs => (den k ρ).bind fun x => (R.of (fz x.2 x.1)).bind fun z => (den v z.2).bind fun x' => (R.of (fz x'.2 x'.1)).bind fun z' =>
      if dkey0 z.1 then denD r z'.2 (putD z.1 z'.1 ks vs).1 (putD z.1 z'.1 ks vs).2 else .bad
def denI (hd : List Nat) : CI → Env → R (List D × Env)
  | .ex e, ρ => (den e ρ).bind fun x => (R.of (fzH hd x.2 x.1)).bind fun z => if isDic z.1 then .bad else (R.of (itemsOf z.1)).bind fun xs => .ok (xs, z.2)
  | .r1 a, ρ => (den a ρ).bind fun x => match rd x.2 x.1 with
    | some (.int i) => if smB i then .ok (rng 0 i 1, x.2) else .bad
    | _ => .bad
  | .r2 a b, ρ => (den a ρ).bind fun x => (den b x.2).bind fun y => match rdH y.2 x.1.hv, rd y.2 y.1 with
    | some (.int i), some (.int j) => if smB i && smB j then .ok (rng i j 1, y.2) else .bad
    | _, _ => .bad
  | .r3 a b c, ρ => (den a ρ).bind fun x => (den b x.2).bind fun y => (den c y.2).bind fun z => match rdH z.2 x.1.hv, rdH z.2 y.1.hv, rd z.2 z.1 with
    | some (.int i), some (.int j), some (.int k) => if smB i && smB j && smB k && decide (k ≠ 0) then .ok (rng i j k, z.2) else .bad
    | _, _, _ => .bad
  | .enum e, ρ => (den e ρ).bind fun x => (R.of (fzH hd x.2 x.1)).bind fun z => match z.1 with
    | .lst xs => .ok (zipD (rng 0 xs.length 1) xs, z.2)
    | _ => .bad
  | .zip a b, ρ => (den a ρ).bind fun x => (R.of (fz x.2 x.1)).bind fun z => (den b z.2).bind fun y => (R.of (fz y.2 y.1)).bind fun z' => match z.1, z'.1 with
    | .lst xs, .lst ys => .ok (zipD xs ys, z'.2)
    | .tup xs, .tup ys => .ok (zipD xs ys, z'.2)
    | _, _ => .bad
  | .ezip a b, ρ => (den a ρ).bind fun x => (R.of (fzH hd x.2 x.1)).bind fun z => (den b z.2).bind fun y => (R.of (fzH hd y.2 y.1)).bind fun z' => match z.1, z'.1 with
    | .dic _ _, _ => .bad
    | _, .dic _ _ => .bad
    | d, d' => (R.of (itemsOf d)).bind fun xs => (R.of (itemsOf d')).bind fun ys => .ok (zipD (rng 0 (zipD xs ys).length 1) (zipD xs ys), z'.2)
  | .items e, ρ => (den e ρ).bind fun x => (R.of (fzH hd x.2 x.1)).bind fun z => match z.1 with
    | .dic ks vs => .ok (zipD ks vs, z.2)
    | _ => .bad
  | .un, _ => .bad
  | .vals e, ρ => (den e ρ).bind fun x => (R.of (fzH hd x.2 x.1)).bind fun z => match z.1 with
    | .dic _ vs => .ok (vs, z.2)
    | _ => .bad
end

end

/-! ### statements -/
inductive FR where
  | nx (ρ : Env) | bk (ρ : Env) | ct (ρ : Env) | rt (fr : Bool) (d : D) (ρ : Env)
/-- an own object of a slot is frozen, a new one stays new -/
def res (ρ : Env) : RV → Option (PV × Env)
  | .imm d => some (.imm d, ρ)
  | .tmp d => some (.own d, ρ)
  | .slot i => (fz ρ (.slot i)).map fun p => (.imm p.1, p.2)
/-- z: slot 0 is the law's box, handed in and out -/
def setV (z : Bool) (i : Nat) (p : PV) (ρ : Env) : Option Env := if (z && i == 0) || decide (ρ.length ≤ i) then none else some (ρ.set i (some p))
def setVs (z : Bool) : List Nat → List PV → Env → Option Env
  | [], [], ρ => some ρ
  | i :: is, p :: ps, ρ => (setV z i p ρ).bind fun ρ' => setVs z is ps ρ'
  | _, _, _ => none
mutual
def TG.no0 : TG → Bool
  | .n i => i != 0
  | .t ts => TG.no0L ts
def TG.no0L : List TG → Bool
  | [] => true
  | a :: as => a.no0 && TG.no0L as
end
def resAll : List RV → Env → Option (List PV × Env)
  | [], ρ => some ([], ρ)
  | x :: xs, ρ => (res ρ x).bind fun p => (resAll xs p.2).map fun q => (p.1 :: q.1, q.2)
def forLoop (turn : D → Env → R FR) : List D → Env → R FR
  | [], ρ => .ok (.nx ρ)
  | d :: ds, ρ => (turn d ρ).bind fun f => match f with
    | .nx ρ' => forLoop turn ds ρ'
    | .ct ρ' => forLoop turn ds ρ'
    | .bk ρ' => .ok (.nx ρ')
    | .rt fr d ρ' => .ok (.rt fr d ρ')
/-- the most turns of a while -/
def most : Nat := 1000000000000
def whlLoop (c : Env → R (Bool × Env)) (turn : Env → R FR) : Nat → Env → R FR
  | 0, _ => .bad
  | n + 1, ρ => (c ρ).bind fun x => if x.1 then (turn x.2).bind fun f => match f with
      | .nx ρ' => whlLoop c turn n ρ'
      | .ct ρ' => whlLoop c turn n ρ'
      | .bk ρ' => .ok (.nx ρ')
      | .rt fr d ρ' => .ok (.rt fr d ρ')
    else .ok (.nx x.2)
section
variable (GD : Nat → D) (F : Nat → Fn) (z : Bool)
/-- from the left, none read yet -/
def denL : CL → Env → R (List RV × Env)
  | .nil, ρ => .ok ([], ρ)
  | .cons e es, ρ => (den GD F e ρ).bind fun x => (denL es x.2).bind fun r => .ok (x.1 :: r.1, r.2)
mutual
def denS : CS → Env → R FR
  | .set i e, ρ => (den GD F e ρ).bind fun x => (R.of (res x.2 x.1)).bind fun p => (R.of (setV z i p.1 p.2)).bind fun ρ' => .ok (.nx ρ')
  | .ust t e, ρ => (den GD F e ρ).bind fun x => (R.of (fz x.2 x.1)).bind fun p => if z && !t.no0 then .bad else (R.of (bindT t p.1 p.2)).bind fun ρ' => .ok (.nx ρ')
  | .par is es, ρ => (denL GD F es ρ).bind fun x => (R.of (resAll x.1 x.2)).bind fun p => (R.of (setVs z is p.1 p.2)).bind fun ρ' => .ok (.nx ρ')
  | .aug i o e, ρ => match ρ[i]? with
    | some (some (.imm d)) => (den GD F e ρ).bind fun y => (R.of (rd y.2 y.1)).bind fun dy => (R.of (augop o d dy)).bind fun r =>
        (R.of (setV z i (.imm r) y.2)).bind fun ρ' => .ok (.nx ρ')
    | some (some (.own (.lst _))) => (den GD F e ρ).bind fun y => match y.2[i]? with
      | some (some (.own (.lst xs))) => match o, rd y.2 y.1 with
        | .add, some (.lst ys) => if xs.length + ys.length ≤ line then (R.of (setV z i (.own (.lst (xs ++ ys))) y.2)).bind fun ρ' => .ok (.nx ρ') else .bad
        | _, _ => .bad
      | _ => .bad
    | _ => .bad
  | .app i e, ρ => match ρ[i]? with
    | some (some (.own (.lst _))) => (den GD F e ρ).bind fun x => (R.of (fz x.2 x.1)).bind fun p => match p.2[i]? with
      | some (some (.own (.lst xs))) => if xs.length < line then .ok (.nx (p.2.set i (some (.own (.lst (xs ++ [p.1])))))) else .bad
      | _ => .bad
    | _ => .bad
  | .sti i b e, ρ => (den GD F e ρ).bind fun x => (R.of (fz x.2 x.1)).bind fun p => match p.2[i]? with
    | some (some (.own _)) => (den GD F b p.2).bind fun y => match y.2[i]? with
      | some (some (.own (.lst xs))) => match rd y.2 y.1 with
        | some (.int j) => match ixN xs.length j with
          | some m => .ok (.nx (y.2.set i (some (.own (.lst (xs.set m p.1))))))
          | none => .bad
        | _ => .bad
      | some (some (.own (.dic ks vs))) => match rd y.2 y.1 with
        | some k => if dkeys k ks && decide (ks.length < line) then .ok (.nx (y.2.set i (some (.own (.dic (putD k p.1 ks vs).1 (putD k p.1 ks vs).2))))) else .bad
        | _ => .bad
      | _ => .bad
    | _ => .bad
  | .sls i lo hi e, ρ => (den GD F e ρ).bind fun x => (den GD F lo x.2).bind fun a => (den GD F hi a.2).bind fun b => match b.2[i]?, rdH b.2 x.1.hv, rdH b.2 a.1.hv, rd b.2 b.1 with
    | some (some (.own (.lst xs))), some (.lst ys), some (.int u), some (.int v) =>
      if decide (0 ≤ u) && decide (u ≤ v) && decide (v ≤ xs.length) && decide (xs.length + ys.length ≤ line) then .ok (.nx (b.2.set i (some (.own (.lst (xs.take u.toNat ++ ys ++ xs.drop v.toNat)))))) else .bad
    | _, _, _, _ => .bad
  | .iff c a b, ρ => (denB GD F c ρ).bind fun x => if x.1 then denBl a x.2 else denBl b x.2
  | .for_ t s b, ρ => if z && !t.no0 then .bad else (denI GD F [] s ρ).bind fun x => forLoop (fun d ρ₁ => (R.of (bindT t d ρ₁)).bind fun ρ₂ => denBl b ρ₂) x.1 x.2
  | .whl c b, ρ => whlLoop (denB GD F c) (denBl b) most ρ
  | .ret e, ρ => (den GD F e ρ).bind fun x => match x.1 with
    | .imm d => .ok (.rt false d x.2)
    | .tmp d => .ok (.rt true d x.2)
    | .slot i => match x.2[i]? with
      | some (some (.own d)) => if z && i == 0 then .bad else .ok (.rt true d (x.2.set i none))
      | some (some (.imm d)) => .ok (.rt false d x.2)
      | _ => .bad
  | .rai c .no, _ => .exc c .non
  | .rai c (.so e), ρ => (den GD F e ρ).bind fun x => (R.of (fz x.2 x.1)).bind fun p => .exc c p.1
  | .brk, ρ => .ok (.bk ρ)
  | .cont, ρ => .ok (.ct ρ)
  | .pass, ρ => .ok (.nx ρ)
  | .un, _ => .bad
def denBl : CB → Env → R FR
  | .e, ρ => .ok (.nx ρ)
  | .c s b, ρ => (denS s ρ).bind fun f => match f with
    | .nx ρ' => denBl b ρ'
    | f => .ok f
end
end
/-! ### functions -/
/-- slots, parameters, in and out, body -/
structure CF where
  n : Nat
  ps : Nat
  io : Bool
  body : CB
def startE (io : Bool) (n : Nat) : List D → Env
  | [] => List.replicate n none
  | d :: ds => (if io then some (.own d) else some (.imm d)) :: (ds.map fun d => some (.imm d)) ++ List.replicate (n - (ds.length + 1)) none
def endE (io : Bool) (ρ : Env) : Option D := if io then (match ρ[(0 : Nat)]? with
  | some (some (.own b)) => some b
  | _ => none) else some .non
def runF (GD : Nat → D) (F : Nat → Fn) (f : CF) : Fn := fun ds => if ds.length = f.ps ∧ f.ps ≤ f.n then (denBl GD F f.io f.body (startE f.io f.n ds)).bind fun r => match r with
    | .nx ρ => (R.of (endE f.io ρ)).bind fun b => .ok ((false, .non), b)
    | .rt fr d ρ => (R.of (endE f.io ρ)).bind fun b => .ok ((fr, d), b)
    | _ => .bad
  else .bad
def badF : Fn := fun _ => .bad
/-- the functions of a text, calls at most l deep -/
def run (GD : Nat → D) (defs : List CF) : Nat → Nat → Fn
  | 0, _ => badF
  | l + 1, i => match defs[i]? with
    | some f => runF GD (run GD defs l) f
    | none => badF
end Kn

end

section
/-! K, the tie: data in the heap, slots, steps. -/
namespace Kn
open PySem PySem.Spec PyProof.Rows L2

abbrev txS (x : List Nat) : Str := ⟨x.toArray⟩
def okT (x : List Nat) : Prop := (txS x).cps.all (· < 0x110000) = true
theorem txS_toList (x : List Nat) : (txS x).cps.toList = x := by simp [txS]
theorem txS_of (x : Str) : txS x.cps.toList = x := by cases x; simp [txS]
theorem txS_inj {x y : List Nat} (h : txS x = txS y) : x = y := by
  have := congrArg (fun z : Str => z.cps.toList) h
  simpa using this
theorem okT_iff {x : List Nat} : okT x ↔ ∀ c ∈ x, c < 0x110000 := by
  unfold okT
  rw [Array.all_eq_true']
  simp [txS]
theorem okT_nil : okT [] := okT_iff.mpr (by simp)
theorem okT_append {x y : List Nat} (h : okT x) (h' : okT y) : okT (x ++ y) := okT_iff.mpr fun c hc => (List.mem_append.mp hc).elim (okT_iff.mp h c) (okT_iff.mp h' c)
theorem okT_sub {x y : List Nat} (h : okT x) (s : ∀ c ∈ y, c ∈ x) : okT y := okT_iff.mpr fun c hc => okT_iff.mp h c (s c hc)

/-- the data of a dict's key -/
def keyD : Key → D
  | .inl i => .int i
  | .inr x => .str x.cps.toList
def okK : Key → Prop
  | .inl _ => True
  | .inr x => okT x.cps.toList

mutual
/-- the value v bears the data d, in what nobody changes any more -/
def Rep (K : PySem.W.Frag) (G : Hp) : D → V → Prop
  | .non, v => v = .non
  | .bl b, v => v = .bl b
  | .int i, v => v = .int i
  | .str x, v => v = .str (txS x) ∧ okT x
  | .lst ds, v => ∃ a vs, v = .ref a ∧ G a = some (.lst vs) ∧ RepL K G ds vs
  | .tup ds, v => ∃ a vs, v = .ref a ∧ SqT K G a vs ∧ RepL K G ds vs
  | .dic ks ws, v => ∃ a, v = .ref a ∧ ((∃ kvs : List (Key × V), Rd G a (.dK kvs) ∧ ks = kvs.map (fun p => keyD p.1) ∧ (∀ p ∈ kvs, okK p.1) ∧ (kvs.map (·.1)).Nodup ∧ RepL K G ws (kvs.map (·.2))) ∨
      ∃ kvs : List (List Key × V), Rd G a (.dT kvs) ∧ ks = kvs.map (fun p => D.tup (p.1.map keyD)) ∧ (kvs ≠ [] ∧ ∀ p ∈ kvs, ∀ k ∈ p.1, okK k) ∧ (kvs.map (·.1)).Nodup ∧ RepL K G ws (kvs.map (·.2)))
  | .scr ns, v => ∃ a, v = .ref a ∧ SqL K G a (ns.map V.int)
def RepL (K : PySem.W.Frag) (G : Hp) : List D → List V → Prop
  | [], vs => vs = []
  | d :: ds, vs => ∃ v r, vs = v :: r ∧ Rep K G d v ∧ RepL K G ds r
end
/-- an own object -/
def OwnO (K : PySem.W.Frag) (G : Hp) : D → HO → Prop
  | .lst ds, o => ∃ vs, o = .lst vs ∧ RepL K G ds vs
  | .dic ks ws, o => (∃ kvs : List (Key × V), o = .dK kvs ∧ ks = kvs.map (fun p => keyD p.1) ∧ (∀ p ∈ kvs, okK p.1) ∧ (kvs.map (·.1)).Nodup ∧ RepL K G ws (kvs.map (·.2))) ∨
      ∃ kvs : List (List Key × V), o = .dT kvs ∧ ks = kvs.map (fun p => D.tup (p.1.map keyD)) ∧ (kvs ≠ [] ∧ ∀ p ∈ kvs, ∀ k ∈ p.1, okK k) ∧ (kvs.map (·.1)).Nodup ∧ RepL K G ws (kvs.map (·.2))
  | _, _ => False

def Sub (G G' : Hp) : Prop := ∀ b o, G b = some o → G' b = some o
theorem Sub.refl (G : Hp) : Sub G G := fun _ _ h => h
theorem Sub.trans {G G' G'' : Hp} (a : Sub G G') (b : Sub G' G'') : Sub G G'' := fun c o h => b c o (a c o h)
theorem Sub.upd {G : Hp} {a : Addr} {o : HO} (h : G a = none) : Sub G (upd G a o) := fun b u e => by
  rw [upd_ne (ne_of_none e h)]; exact e
theorem Rd.sub {G G' : Hp} {a : Addr} {u : HO} (s : Sub G G') (h : Rd G a u) : Rd G' a u := h.elim (fun e => .inl (s _ _ e)) fun ⟨o, e⟩ => .inr ⟨o, s _ _ e⟩
theorem SqT_sub {K : PySem.W.Frag} {G G' : Hp} {a : Addr} {xs : List V} (s : Sub G G') (h : SqT K G a xs) : SqT K G' a xs := h.elim (fun r => .inl (Rd.sub s r)) .inr
theorem SqL_sub {K : PySem.W.Frag} {G G' : Hp} {a : Addr} {xs : List V} (s : Sub G G') (h : SqL K G a xs) : SqL K G' a xs := h.elim (fun r => .inl (Rd.sub s r)) .inr

section
variable {K : PySem.W.Frag} {G G' : Hp}
mutual
theorem Rep.sub (s : Sub G G') : ∀ (d : D) {v : V}, Rep K G d v → Rep K G' d v
  | .non, _, h => by simpa only [Rep] using h
  | .bl _, _, h => by simpa only [Rep] using h
  | .int _, _, h => by simpa only [Rep] using h
  | .str _, _, h => by simpa only [Rep] using h
  | .lst ds, _, h => by
    simp only [Rep] at h ⊢
    obtain ⟨a, vs, e, g, r⟩ := h
    exact ⟨a, vs, e, s _ _ g, RepL.sub s ds r⟩
  | .tup ds, _, h => by
    simp only [Rep] at h ⊢
    obtain ⟨a, vs, e, g, r⟩ := h
    exact ⟨a, vs, e, SqT_sub s g, RepL.sub s ds r⟩
  | .dic ks ws, _, h => by
    simp only [Rep] at h ⊢
    obtain ⟨a, e, h⟩ := h
    refine ⟨a, e, ?_⟩
    rcases h with ⟨kvs, g, e2, o, n, r⟩ | ⟨kvs, g, e2, o, n, r⟩
    · exact .inl ⟨kvs, Rd.sub s g, e2, o, n, RepL.sub s ws r⟩
    · exact .inr ⟨kvs, Rd.sub s g, e2, o, n, RepL.sub s ws r⟩
  | .scr ns, _, h => by
    simp only [Rep] at h ⊢
    obtain ⟨a, e, g⟩ := h
    exact ⟨a, e, SqL_sub s g⟩
theorem RepL.sub (s : Sub G G') : ∀ (ds : List D) {vs : List V}, RepL K G ds vs → RepL K G' ds vs
  | [], _, h => by simpa only [RepL] using h
  | d :: ds, _, h => by
    simp only [RepL] at h ⊢
    obtain ⟨v, r, e, h1, h2⟩ := h
    exact ⟨v, r, e, Rep.sub s d h1, RepL.sub s ds h2⟩
end
theorem OwnO.sub (s : Sub G G') {d : D} {o : HO} (h : OwnO K G d o) : OwnO K G' d o := by
  cases d with
  | lst ds =>
    obtain ⟨vs, e, r⟩ := h
    exact ⟨vs, e, RepL.sub s ds r⟩
  | dic ks ws =>
    rcases h with ⟨kvs, e, e2, o, n, r⟩ | ⟨kvs, e, e2, o, n, r⟩
    · exact .inl ⟨kvs, e, e2, o, n, RepL.sub s ws r⟩
    · exact .inr ⟨kvs, e, e2, o, n, RepL.sub s ws r⟩
  | _ => exact h.elim
theorem OwnO.mut {d : D} {o : HO} (h : OwnO K G d o) : Mut (some o) := by
  cases d with
  | lst ds => obtain ⟨vs, e, r⟩ := h; subst e; trivial
  | dic ks ws => rcases h with ⟨kvs, e, _⟩ | ⟨kvs, e, _⟩ <;> subst e <;> trivial
  | _ => exact h.elim
/-- frozen at a -/
theorem OwnO.rep {d : D} {o : HO} {a : Addr} (h : OwnO K G d o) (g : G a = none) : Rep K (upd G a o) d (.ref a) := by
  have s := Sub.upd (o := o) g
  cases d with
  | lst ds =>
    obtain ⟨vs, e, r⟩ := h
    subst e
    simp only [Rep]
    exact ⟨a, vs, rfl, upd_same, RepL.sub s ds r⟩
  | dic ks ws =>
    simp only [Rep]
    rcases h with ⟨kvs, e, e2, o, n, r⟩ | ⟨kvs, e, e2, o, n, r⟩
    · subst e
      exact ⟨a, rfl, .inl ⟨kvs, .inl upd_same, e2, o, n, RepL.sub s ws r⟩⟩
    · subst e
      exact ⟨a, rfl, .inr ⟨kvs, .inl upd_same, e2, o, n, RepL.sub s ws r⟩⟩
  | _ => exact h.elim
theorem RepL.length : ∀ {ds : List D} {vs : List V}, RepL K G ds vs → vs.length = ds.length
  | [], _, h => by simp only [RepL] at h; subst h; rfl
  | d :: ds, _, h => by
    simp only [RepL] at h
    obtain ⟨v, r, e, _, h2⟩ := h
    subst e
    simp [RepL.length h2]
theorem RepL.nil : RepL K G [] [] := by simp only [RepL]
theorem RepL.cons {d : D} {ds : List D} {v : V} {vs : List V} (h : Rep K G d v) (h2 : RepL K G ds vs) : RepL K G (d :: ds) (v :: vs) := by
  simp only [RepL]
  exact ⟨v, vs, rfl, h, h2⟩
theorem RepL.uncons {d : D} {ds : List D} {vs : List V} (h : RepL K G (d :: ds) vs) : ∃ v r, vs = v :: r ∧ Rep K G d v ∧ RepL K G ds r := by simpa only [RepL] using h
theorem RepL.append : ∀ {ds es : List D} {vs ws : List V}, RepL K G ds vs → RepL K G es ws → RepL K G (ds ++ es) (vs ++ ws)
  | [], _, _, _, h, h' => by simp only [RepL] at h; subst h; exact h'
  | d :: ds, _, _, _, h, h' => by
    obtain ⟨v, r, e, h1, h2⟩ := h.uncons
    subst e
    exact .cons h1 (RepL.append h2 h')
theorem RepL.get : ∀ {ds : List D} {vs : List V} {i : Nat} {d : D}, RepL K G ds vs → ds[i]? = some d → ∃ v, vs[i]? = some v ∧ Rep K G d v
  | [], _, _, _, _, e => by simp at e
  | d :: ds, _, 0, _, h, e => by
    obtain ⟨v, r, e2, h1, h2⟩ := h.uncons
    subst e2
    simp at e
    subst e
    exact ⟨v, rfl, h1⟩
  | d :: ds, _, i + 1, _, h, e => by
    obtain ⟨v, r, e2, h1, h2⟩ := h.uncons
    subst e2
    simpa using RepL.get (i := i) h2 (by simpa using e)
theorem RepL.take : ∀ {ds : List D} {vs : List V} (n : Nat), RepL K G ds vs → RepL K G (ds.take n) (vs.take n)
  | _, _, 0, _ => by simpa using RepL.nil
  | [], _, _ + 1, h => by simp only [RepL] at h; subst h; simpa using RepL.nil
  | d :: ds, _, n + 1, h => by
    obtain ⟨v, r, e2, h1, h2⟩ := h.uncons
    subst e2
    exact .cons h1 (RepL.take n h2)
theorem RepL.drop : ∀ {ds : List D} {vs : List V} (n : Nat), RepL K G ds vs → RepL K G (ds.drop n) (vs.drop n)
  | _, _, 0, h => h
  | [], _, _ + 1, h => by simp only [RepL] at h; subst h; simpa using RepL.nil
  | d :: ds, _, n + 1, h => by
    obtain ⟨v, r, e2, h1, h2⟩ := h.uncons
    subst e2
    exact RepL.drop n h2
theorem RepL.set : ∀ {ds : List D} {vs : List V} {d : D} {v : V} (n : Nat), RepL K G ds vs → Rep K G d v → RepL K G (ds.set n d) (vs.set n v)
  | [], _, _, _, _, h, _ => by simp only [RepL] at h; subst h; simpa using RepL.nil
  | e :: ds, _, _, _, 0, h, r => by
    obtain ⟨v, rr, e2, h1, h2⟩ := h.uncons
    subst e2
    exact .cons r h2
  | e :: ds, _, _, _, n + 1, h, r => by
    obtain ⟨v, rr, e2, h1, h2⟩ := h.uncons
    subst e2
    exact .cons h1 (RepL.set n h2 r)
theorem RepL.reverse : ∀ {ds : List D} {vs : List V}, RepL K G ds vs → RepL K G ds.reverse vs.reverse
  | [], _, h => by simp only [RepL] at h; subst h; exact RepL.nil
  | d :: ds, _, h => by
    obtain ⟨v, r, e2, h1, h2⟩ := h.uncons
    subst e2
    rw [List.reverse_cons, List.reverse_cons]
    exact RepL.append (RepL.reverse h2) (.cons h1 .nil)
theorem RepL.rep : ∀ {ds : List D} {vs : List V} (n : Nat), RepL K G ds vs → RepL K G (Kn.rep n ds) (List.replicate n vs).flatten
  | _, _, 0, _ => by simpa [Kn.rep] using RepL.nil
  | ds, vs, n + 1, h => by
    have ih := RepL.rep n h
    unfold Kn.rep at ih ⊢
    rw [List.replicate_succ, List.flatten_cons, List.replicate_succ, List.flatten_cons]
    exact RepL.append h ih
theorem RepL.eraseIdx : ∀ {ds : List D} {vs : List V} (n : Nat), RepL K G ds vs → RepL K G (ds.eraseIdx n) (vs.eraseIdx n)
  | [], _, n, h => by simp only [RepL] at h; subst h; simpa using RepL.nil
  | d :: ds, _, 0, h => by
    obtain ⟨v, r, e2, h1, h2⟩ := h.uncons
    subst e2
    exact h2
  | d :: ds, _, n + 1, h => by
    obtain ⟨v, r, e2, h1, h2⟩ := h.uncons
    subst e2
    exact .cons h1 (RepL.eraseIdx n h2)
theorem RepL.dropLast {ds : List D} {vs : List V} (h : RepL K G ds vs) : RepL K G ds.dropLast vs.dropLast := by
  rw [List.dropLast_eq_take, List.dropLast_eq_take, h.length]
  exact h.take _
end

/-- no table -/
def nt (o : HO) : Prop := ∀ ps, o ≠ .tbl ps
theorem nt_mut {o : HO} (h : Mut (some o)) : nt o := fun ps e => by subst e; exact h
/-- the ground is part of the heap; a dict of it may be locked -/
def SubH (G H : Hp) : Prop := ∀ b o, G b = some o → H b = some o ∨ ((∃ kvs, o = .dK kvs) ∨ ∃ kvs, o = .dT kvs) ∧ ∃ ob, H b = some (.frz ob o)
theorem SubH.lst {G H : Hp} (s : SubH G H) {b : Addr} {vs : List V} (e : G b = some (.lst vs)) : H b = some (.lst vs) := by
  rcases s b _ e with h | ⟨⟨kvs, z⟩ | ⟨kvs, z⟩, _⟩
  · exact h
  · cases z
  · cases z
theorem SubH.tup {G H : Hp} (s : SubH G H) {b : Addr} {vs : List V} (e : G b = some (.tup vs)) : H b = some (.tup vs) := by
  rcases s b _ e with h | ⟨⟨kvs, z⟩ | ⟨kvs, z⟩, _⟩
  · exact h
  · cases z
  · cases z
theorem SubH.frz {G H : Hp} (s : SubH G H) {b : Addr} {ob : Obj} {u : HO} (e : G b = some (.frz ob u)) : H b = some (.frz ob u) := by
  rcases s b _ e with h | ⟨⟨kvs, z⟩ | ⟨kvs, z⟩, _⟩
  · exact h
  · cases z
  · cases z
theorem SubH.rd {G H : Hp} (s : SubH G H) {b : Addr} {u : HO} (e : Rd G b u) : Rd H b u := by
  rcases e with e | ⟨ob, e⟩
  · rcases s b _ e with h | ⟨_, ob, h⟩
    · exact .inl h
    · exact .inr ⟨ob, h⟩
  · exact .inr ⟨ob, s.frz e⟩
theorem SubH.sqT {K : PySem.W.Frag} {G H : Hp} (s : SubH G H) {b : Addr} {vs : List V} (e : SqT K G b vs) : SqT K H b vs := e.elim (fun r => .inl (s.rd r)) .inr
theorem SubH.sqL {K : PySem.W.Frag} {G H : Hp} (s : SubH G H) {b : Addr} {vs : List V} (e : SqL K G b vs) : SqL K H b vs := e.elim (fun r => .inl (s.rd r)) .inr
theorem SubH.some {G H : Hp} (s : SubH G H) {b : Addr} {o : HO} (e : G b = some o) : ∃ u, H b = some u := by
  rcases s b _ e with h | ⟨_, ob, h⟩
  · exact ⟨_, h⟩
  · exact ⟨_, h⟩

abbrev IsO (ρ : Env) (i : Nat) (d : D) : Prop := ρ[i]? = some (some (PV.own d))
abbrev IsI (ρ : Env) (i : Nat) (d : D) : Prop := ρ[i]? = some (some (PV.imm d))
abbrev IsV (σ : L2.St) (i : Nat) (v : V) : Prop := σ[i]? = some (some v)
theorem IsV.inj {σ : L2.St} {i : Nat} {v u : V} (h : IsV σ i v) (h' : IsV σ i u) : v = u := Option.some.inj (Option.some.inj (h.symm.trans h'))
theorem IsO.inj {ρ : Env} {i : Nat} {d e : D} (h : IsO ρ i d) (h' : IsO ρ i e) : d = e := PV.own.inj (Option.some.inj (Option.some.inj (h.symm.trans h')))
theorem IsI.inj {ρ : Env} {i : Nat} {d e : D} (h : IsI ρ i d) (h' : IsI ρ i e) : d = e := PV.imm.inj (Option.some.inj (Option.some.inj (h.symm.trans h')))
theorem IsO.lt {ρ : Env} {i : Nat} {d : D} (h : IsO ρ i d) : i < ρ.length := (List.getElem?_eq_some_iff.mp h).1
theorem IsI.lt {ρ : Env} {i : Nat} {d : D} (h : IsI ρ i d) : i < ρ.length := (List.getElem?_eq_some_iff.mp h).1
theorem at_set {ρ : Env} {i j : Nat} {x : Option PV} {p : PV} (h : (ρ.set i x)[j]? = some (some p)) : (j = i ∧ i < ρ.length ∧ x = some p) ∨ (j ≠ i ∧ ρ[j]? = some (some p)) := by
  by_cases e : j = i
  · subst e
    by_cases hl : j < ρ.length
    · rw [List.getElem?_set_self hl] at h
      exact .inl ⟨rfl, hl, Option.some.inj h⟩
    · rw [List.getElem?_eq_none (by simpa using hl)] at h
      cases h
  · rw [List.getElem?_set_ne (Ne.symm e)] at h
    exact .inr ⟨e, h⟩
theorem isO_set {ρ : Env} {i j : Nat} {x : Option PV} {d : D} (h : IsO (ρ.set i x) j d) : (j = i ∧ i < ρ.length ∧ x = some (.own d)) ∨ (j ≠ i ∧ IsO ρ j d) := at_set h
theorem isI_set {ρ : Env} {i j : Nat} {x : Option PV} {d : D} (h : IsI (ρ.set i x) j d) : (j = i ∧ i < ρ.length ∧ x = some (.imm d)) ∨ (j ≠ i ∧ IsI ρ j d) := at_set h
/-- an own object's address -/
def Ow (ρ : Env) (σ : L2.St) (a : Addr) : Prop := ∃ i d, IsO ρ i d ∧ IsV σ i (.ref a)

/-- something stands there that is no table -/
def Live (H : Hp) (a : Addr) : Prop := ∃ o, H a = some o ∧ nt o
theorem not_live {H : Hp} {a : Addr} (h : H a = none) : ¬ Live H a := fun ⟨o, e, _⟩ => by rw [h] at e; cases e
structure Sim (K : PySem.W.Frag) (T : List (Addr × Str)) (ρ : Env) (σ : L2.St) (H G : Hp) : Prop where
  len : ρ.length = σ.length
  sub : SubH G H
  gnt : ∀ b o, G b = some o → nt o
  imm : ∀ i d, IsI ρ i d → ∃ v, IsV σ i v ∧ Rep K G d v
  own : ∀ i d, IsO ρ i d → ∃ a o, IsV σ i (.ref a) ∧ G a = none ∧ H a = some o ∧ OwnO K G d o
  dis : ∀ (i j : Nat) d e a, IsO ρ i d → IsO ρ j e → IsV σ i (.ref a) → IsV σ j (.ref a) → i = j
  tabs : LamX.Tabs T H

structure Stp (K : PySem.W.Frag) (T : List (Addr × Str)) (ρ : Env) (σ : L2.St) (H G : Hp) (ρ' : Env) (σ' : L2.St) (H' G' : Hp) : Prop where
  sim : Sim K T ρ' σ' H' G'
  sub : Sub G G'
  frame : ∀ b o, H b = some o → nt o → ¬ Ow ρ σ b → H' b = some o
  gfr : ∀ b o, H b = some o → Mut (some o) → G b = none → ¬ Ow ρ σ b → G' b = none
  own : ∀ b, Ow ρ' σ' b → Ow ρ σ b ∨ ¬ Live H b
  mono : ∀ b, Live H b → Live H' b
  len : ρ'.length = ρ.length

section
variable {K : PySem.W.Frag} {T : List (Addr × Str)} {ρ ρ' ρ'' : Env} {σ σ' σ'' : L2.St} {H H' H'' G G' G'' : Hp}
theorem Stp.refl (s : Sim K T ρ σ H G) : Stp K T ρ σ H G ρ σ H G :=
  ⟨s, Sub.refl G, fun _ _ h _ _ => h, fun _ _ _ _ h _ => h, fun _ h => .inl h, fun _ h => h, rfl⟩
theorem Stp.trans (a : Stp K T ρ σ H G ρ' σ' H' G') (b : Stp K T ρ' σ' H' G' ρ'' σ'' H'' G'') : Stp K T ρ σ H G ρ'' σ'' H'' G'' where
  sim := b.sim
  sub := a.sub.trans b.sub
  frame := fun c o h n w => b.frame c o (a.frame c o h n w) n fun z => (a.own c z).elim w fun e => e ⟨o, h, n⟩
  gfr := fun c o h m g w => b.gfr c o (a.frame c o h (nt_mut m) w) m (a.gfr c o h m g w) fun z => (a.own c z).elim w fun e => e ⟨o, h, nt_mut m⟩
  own := fun c z => (b.own c z).elim (a.own c) fun e => .inr fun l => e (a.mono c l)
  mono := fun c h => b.mono c (a.mono c h)
  len := b.len.trans a.len
theorem Ow.ne (s : Sim K T ρ σ H G) {a : Addr} (h : Ow ρ σ a) : ∃ o, H a = some o ∧ G a = none ∧ Mut (some o) := by
  obtain ⟨i, d, e1, e2⟩ := h
  obtain ⟨b, o, e3, g, e4, w⟩ := s.own i d e1
  cases e2.inj e3
  exact ⟨o, e4, g, w.mut⟩

/-- a step of an expression: the slots' values stand; what is own was own -/
structure StE (K : PySem.W.Frag) (T : List (Addr × Str)) (σ : L2.St) (ρ : Env) (H G : Hp) (ρ' : Env) (H' G' : Hp) : Prop where
  st : Stp K T ρ σ H G ρ' σ H' G'
  owe : ∀ i d, IsO ρ' i d → ∃ e, IsO ρ i e
theorem StE.refl (s : Sim K T ρ σ H G) : StE K T σ ρ H G ρ H G := ⟨.refl s, fun _ d h => ⟨d, h⟩⟩
theorem StE.trans (a : StE K T σ ρ H G ρ' H' G') (b : StE K T σ ρ' H' G' ρ'' H'' G'') : StE K T σ ρ H G ρ'' H'' G'' :=
  ⟨a.st.trans b.st, fun i d h => let ⟨e, h'⟩ := b.owe i d h; a.owe i e h'⟩
theorem StE.sim (a : StE K T σ ρ H G ρ' H' G') : Sim K T ρ' σ H' G' := a.st.sim
theorem StE.ow (a : StE K T σ ρ H G ρ' H' G') {b : Addr} (h : Ow ρ' σ b) : Ow ρ σ b := by
  obtain ⟨i, d, e1, e2⟩ := h
  obtain ⟨e, h'⟩ := a.owe i d e1
  exact ⟨i, e, h', e2⟩

/-- what an expression hands back; H₀: the heap at its beginning -/
def RVok (K : PySem.W.Frag) (ρ' : Env) (σ : L2.St) (H₀ H' G' : Hp) (v : V) : RV → Prop
  | .imm d => Rep K G' d v
  | .tmp d => ∃ a o, v = .ref a ∧ H' a = some o ∧ G' a = none ∧ OwnO K G' d o ∧ ¬ Live H₀ a
  | .slot i => IsV σ i v ∧ True
/-- it reads as d -/
def Red (K : PySem.W.Frag) (H G : Hp) (d : D) (v : V) : Prop := Rep K G d v ∨ ∃ a o, v = .ref a ∧ H a = some o ∧ OwnO K G d o

theorem RVok.mono {v : V} {x : RV} (a : StE K T σ ρ H G ρ' H' G') (h : RVok K ρ'' σ H' H'' G'' v x) : RVok K ρ'' σ H H'' G'' v x := by
  cases x with
  | imm d => exact h
  | tmp d =>
    obtain ⟨b, o, e, h1, g, w, n⟩ := h
    exact ⟨b, o, e, h1, g, w, fun z => n (a.st.mono b z)⟩
  | slot i => exact h
/-- what is held, read later -/
theorem RVok.hold {H₀ : Hp} {v : V} {x : RV} {d : D} (h : RVok K ρ σ H₀ H G v x) (h0 : ∀ b, Ow ρ σ b → Live H₀ b) (a : StE K T σ ρ H G ρ' H' G') (e : rdH ρ' x.hv = some d) : Red K H' G' d v := by
  cases x with
  | imm d' =>
    have z : d' = d := Option.some.inj e
    subst z
    exact .inl (Rep.sub a.st.sub _ h)
  | tmp d' =>
    have z : d' = d := Option.some.inj e
    subst z
    obtain ⟨b, o, e1, h1, g, w, n⟩ := h
    exact .inr ⟨b, o, e1, a.st.frame b o h1 (nt_mut w.mut) (fun z => n (h0 b z)), w.sub a.st.sub⟩
  | slot i =>
    obtain ⟨h1, _⟩ := h
    have e' : (match ρ'[i]? with
      | some (some (.own d)) => some d
      | some (some (.imm d)) => some d
      | _ => none) = some d := e
    split at e'
    · rename_i d' q
      cases e'
      obtain ⟨b, o, q2, g, h3, w⟩ := a.sim.own i _ q
      cases h1.inj q2
      exact .inr ⟨b, o, rfl, h3, w⟩
    · rename_i d' q
      cases e'
      obtain ⟨u, q2, r⟩ := a.sim.imm i _ q
      cases h1.inj q2
      exact .inl r
    · cases e'
theorem rd_hv (ρ : Env) (x : RV) : rdH ρ x.hv = rd ρ x := by cases x <;> rfl
theorem RVok.red {H₀ : Hp} {v : V} {x : RV} {d : D} (h : RVok K ρ σ H₀ H G v x) (h0 : ∀ b, Ow ρ σ b → Live H₀ b) (s : Sim K T ρ σ H G) (e : rd ρ x = some d) : Red K H G d v :=
  h.hold (T := T) h0 (StE.refl s) (by rw [rd_hv]; exact e)
theorem StE.h0 (a : StE K T σ ρ H G ρ' H' G') (s : Sim K T ρ σ H G) : ∀ b, Ow ρ' σ b → Live H b := fun b z => by
  obtain ⟨o, e, _, m⟩ := Ow.ne s (a.ow z)
  exact ⟨o, e, nt_mut m⟩

/-- freezing: the step, and the data in the ground -/
theorem fz_ok {v : V} {x : RV} {d : D} {ρ2 : Env} {H₀ G₀ : Hp} {ρ₀ : Env} (s₀ : Sim K T ρ₀ σ H₀ G₀) (a : StE K T σ ρ₀ H₀ G₀ ρ H G) (h : RVok K ρ σ H₀ H G v x) (e : fz ρ x = some (d, ρ2)) :
    ∃ G2, StE K T σ ρ₀ H₀ G₀ ρ2 H G2 ∧ Rep K G2 d v ∧ Sub G G2 := by
  cases x with
  | imm d' =>
    have z : (d', ρ) = (d, ρ2) := Option.some.inj e
    cases z
    exact ⟨G, a, h, Sub.refl G⟩
  | tmp d' =>
    have z : (d', ρ) = (d, ρ2) := Option.some.inj e
    cases z
    obtain ⟨b, o, e1, h1, g, w, n⟩ := h
    subst e1
    have nw : ¬ Ow ρ σ b := fun z => n (a.h0 s₀ b z)
    refine ⟨upd G b o, ⟨⟨⟨a.sim.len, fun c u q => ?_, fun c u q => ?_, fun i d q => ?_, fun i d q => ?_, a.sim.dis, a.sim.tabs⟩, a.st.sub.trans (Sub.upd g), a.st.frame, fun c u q m gc wc => ?_, a.st.own, a.st.mono, a.st.len⟩, a.owe⟩, w.rep g, Sub.upd g⟩
    · by_cases hc : c = b
      · subst hc
        rw [upd_same] at q
        cases q
        exact .inl h1
      · rw [upd_ne hc] at q
        exact a.sim.sub c u q
    · by_cases hc : c = b
      · subst hc
        rw [upd_same] at q
        cases q
        exact nt_mut w.mut
      · rw [upd_ne hc] at q
        exact a.sim.gnt c u q
    · obtain ⟨u, q1, r⟩ := a.sim.imm i d q
      exact ⟨u, q1, Rep.sub (Sub.upd g) _ r⟩
    · obtain ⟨c, u, q1, gc, hc, wc⟩ := a.sim.own i d q
      refine ⟨c, u, q1, ?_, hc, wc.sub (Sub.upd g)⟩
      rw [upd_ne (fun z => nw (by rw [← z]; exact ⟨i, d, q, q1⟩))]
      exact gc
    · rw [upd_ne (fun z => n ⟨u, by rw [← z]; exact q, nt_mut m⟩)]
      exact a.st.gfr c u q m gc wc
  | slot i =>
    obtain ⟨h1, _⟩ := h
    have e' : (match ρ[i]? with
      | some (some (.own d)) => some (d, ρ.set i (some (.imm d)))
      | some (some (.imm d)) => some (d, ρ)
      | _ => none) = some (d, ρ2) := e
    split at e'
    · rename_i d' q
      cases e'
      have q : IsO ρ i d := q
      obtain ⟨b, o, q2, g, h3, w⟩ := a.sim.own i _ q
      cases h1.inj q2
      have ib : Ow ρ σ b := ⟨i, _, q, h1⟩
      have ib0 : Ow ρ₀ σ b := a.ow ib
      refine ⟨upd G b o, ⟨⟨⟨by rw [List.length_set]; exact a.sim.len, fun c u q => ?_, fun c u q => ?_, fun j d q2 => ?_, fun j d q2 => ?_, fun j k d e c q2 q3 q4 q5 => ?_, a.sim.tabs⟩, a.st.sub.trans (Sub.upd g), a.st.frame, fun c u q m gc wc => ?_, fun c z => ?_, a.st.mono, by rw [List.length_set]; exact a.st.len⟩, fun j d q2 => ?_⟩, w.rep g, Sub.upd g⟩
      · by_cases hc : c = b
        · subst hc
          rw [upd_same] at q
          cases q
          exact .inl h3
        · rw [upd_ne hc] at q
          exact a.sim.sub c u q
      · by_cases hc : c = b
        · subst hc
          rw [upd_same] at q
          cases q
          exact nt_mut w.mut
        · rw [upd_ne hc] at q
          exact a.sim.gnt c u q
      · rcases isI_set q2 with ⟨rfl, _, z⟩ | ⟨hj, q2⟩
        · cases z
          exact ⟨_, h1, w.rep g⟩
        · obtain ⟨u, q3, r⟩ := a.sim.imm j d q2
          exact ⟨u, q3, Rep.sub (Sub.upd g) _ r⟩
      · rcases isO_set q2 with ⟨rfl, _, z⟩ | ⟨hj, q2⟩
        · cases z
        · obtain ⟨c, u, q3, gc, hc, wc⟩ := a.sim.own j d q2
          refine ⟨c, u, q3, ?_, hc, wc.sub (Sub.upd g)⟩
          rw [upd_ne (fun z => hj (a.sim.dis j i d _ b q2 q (by rw [← z]; exact q3) h1))]
          exact gc
      · rcases isO_set q2 with ⟨_, _, z⟩ | ⟨_, q2⟩
        · cases z
        rcases isO_set q3 with ⟨_, _, z⟩ | ⟨_, q3⟩
        · cases z
        exact a.sim.dis j k d e c q2 q3 q4 q5
      · rw [upd_ne (fun z => wc (by rw [z]; exact ib0))]
        exact a.st.gfr c u q m gc wc
      · obtain ⟨j, d, q2, q3⟩ := z
        rcases isO_set q2 with ⟨_, _, z⟩ | ⟨_, q2⟩
        · cases z
        exact a.st.own c ⟨j, d, q2, q3⟩
      · rcases isO_set q2 with ⟨_, _, z⟩ | ⟨_, q2⟩
        · cases z
        exact a.owe j d q2
    · rename_i d' q
      cases e'
      obtain ⟨u, q2, r⟩ := a.sim.imm i _ q
      cases h1.inj q2
      exact ⟨G, a, r, Sub.refl G⟩
    · cases e'
end
end Kn

end

section
/-! K, operators by values. -/
namespace Kn
open PySem PySem.Spec PyProof.Rows L2

/-- a step that touches no slot: new objects, tables -/
structure Cst (K : PySem.W.Frag) (T : List (Addr × Str)) (H G H' G' : Hp) : Prop where
  sub : Sub G G'
  subH : SubH G' H'
  gnt : ∀ b o, G' b = some o → nt o
  frame : ∀ b o, H b = some o → nt o → H' b = some o
  gfr : ∀ b o, H b = some o → Mut (some o) → G b = none → G' b = none
  mono : ∀ b, Live H b → Live H' b
  tabs : LamX.Tabs T H'
section
variable {K : PySem.W.Frag} {T : List (Addr × Str)} {ρ ρ' ρ'' : Env} {σ σ' σ'' : L2.St} {H H' H'' G G' G'' : Hp}
/-- what a closed step needs of its beginning -/
structure Gd (K : PySem.W.Frag) (T : List (Addr × Str)) (H G : Hp) : Prop where
  sub : SubH G H
  gnt : ∀ b o, G b = some o → nt o
  tabs : LamX.Tabs T H
theorem Sim.gd (s : Sim K T ρ σ H G) : Gd K T H G := ⟨s.sub, s.gnt, s.tabs⟩
theorem Cst.refl (g : Gd K T H G) : Cst K T H G H G := ⟨Sub.refl G, g.sub, g.gnt, fun _ _ h _ => h, fun _ _ _ _ h => h, fun _ h => h, g.tabs⟩
theorem Cst.gd (c : Cst K T H G H' G') : Gd K T H' G' := ⟨c.subH, c.gnt, c.tabs⟩
theorem Cst.trans (a : Cst K T H G H' G') (b : Cst K T H' G' H'' G'') : Cst K T H G H'' G'' where
  sub := a.sub.trans b.sub
  subH := b.subH
  gnt := b.gnt
  frame := fun c o h n => b.frame c o (a.frame c o h n) n
  gfr := fun c o h m g => b.gfr c o (a.frame c o h (nt_mut m)) m (a.gfr c o h m g)
  mono := fun c h => b.mono c (a.mono c h)
  tabs := b.tabs
/-- a closed step, among slots -/
theorem Cst.ste (s : Sim K T ρ σ H G) (c : Cst K T H G H' G') : StE K T σ ρ H G ρ H' G' :=
  ⟨⟨⟨s.len, c.subH, c.gnt, fun i d q => let ⟨v, e, r⟩ := s.imm i d q; ⟨v, e, Rep.sub c.sub _ r⟩,
    fun i d q => let ⟨a, o, e, g, h, w⟩ := s.own i d q; ⟨a, o, e, c.gfr a o h w.mut g, c.frame a o h (nt_mut w.mut), w.sub c.sub⟩, s.dis, c.tabs⟩,
    c.sub, fun b o h n _ => c.frame b o h n, fun b o h m g _ => c.gfr b o h m g, fun _ h => .inl h, c.mono, rfl⟩, fun _ d h => ⟨d, h⟩⟩
theorem gnone {p : Addr} (s : SubH G H) (h : H p = none) : G p = none := by
  cases q : G p with
  | none => rfl
  | some o =>
    obtain ⟨u, e⟩ := s.some q
    rw [h] at e
    cases e
theorem subH_upd {p : Addr} {o : HO} (s : SubH G H) (h : H p = none) : SubH G (upd H p o) := fun b u q => by
  have nb : b ≠ p := ne_of_none q (gnone s h)
  rw [upd_ne nb]
  exact s b u q
/-- a new object -/
theorem Cst.new {p : Addr} {o : HO} (g : Gd K T H G) (h : H p = none) : Cst K T H G (upd H p o) G :=
  ⟨Sub.refl G, subH_upd g.sub h, g.gnt, fun b u q _ => by rw [upd_ne (ne_of_none q h)]; exact q, fun _ _ _ _ q => q,
    fun b ⟨u, e, n⟩ => ⟨u, by rw [upd_ne (ne_of_none e h)]; exact e, n⟩, g.tabs.ext fun b u q => by rw [upd_ne (ne_of_none q h)]; exact q⟩
/-- a new object that is known at once -/
theorem Cst.newG {p : Addr} {o : HO} (g : Gd K T H G) (h : H p = none) (n : nt o) : Cst K T H G (upd H p o) (upd G p o) := by
  have gp := gnone g.sub h
  refine ⟨Sub.upd gp, fun b u q => ?_, fun b u q => ?_, fun b u q _ => by rw [upd_ne (ne_of_none q h)]; exact q, fun b u q m gb => ?_, fun b ⟨u, e, n⟩ => ⟨u, by rw [upd_ne (ne_of_none e h)]; exact e, n⟩, g.tabs.ext fun b u q => by rw [upd_ne (ne_of_none q h)]; exact q⟩
  · by_cases hb : b = p
    · subst hb
      rw [upd_same] at q ⊢
      exact .inl q
    · rw [upd_ne hb] at q ⊢
      exact g.sub b u q
  · by_cases hb : b = p
    · subst hb
      rw [upd_same] at q
      cases q
      exact n
    · rw [upd_ne hb] at q
      exact g.gnt b u q
  · rw [upd_ne (ne_of_none q h)]
    exact gb
/-- what comes: a new own list or dict, or data of the ground -/
def Got (K : PySem.W.Frag) (H H' G' : Hp) (v : V) (r : D × Bool) : Prop :=
  if r.2 = true then ∃ a o, v = .ref a ∧ H' a = some o ∧ G' a = none ∧ OwnO K G' r.1 o ∧ ¬ Live H a else Rep K G' r.1 v
theorem Got.lst {p : Addr} {vs : List V} {ds : List D} (s : SubH G H) (h : H p = none) (r : RepL K G ds vs) : Got K H (upd H p (.lst vs)) G (.ref p) (.lst ds, true) := by
  unfold Got
  rw [if_pos rfl]
  exact ⟨p, _, rfl, upd_same, gnone s h, ⟨vs, rfl, r⟩, not_live h⟩
theorem Got.tup {p : Addr} {vs : List V} {ds : List D} (s : SubH G H) (h : H p = none) (r : RepL K G ds vs) : Got K H (upd H p (.tup vs)) (upd G p (.tup vs)) (.ref p) (.tup ds, false) := by
  unfold Got
  rw [if_neg Bool.false_ne_true]
  simp only [Rep]
  exact ⟨p, vs, rfl, .inl (.inl upd_same), RepL.sub (Sub.upd (gnone s h)) _ r⟩
theorem Got.imm {d : D} {v : V} (r : Rep K G' d v) : Got K H H' G' v (d, false) := by
  unfold Got
  rw [if_neg Bool.false_ne_true]
  exact r
/-- the way on, behind a step by values -/
abbrev Then (K : PySem.W.Frag) (T : List (Addr × Str)) (H G : Hp) (r : D × Bool) (Q : VK) : Prop := ∀ v H' G', Cst K T H G H' G' → Got K H H' G' v r → Q v H'

/-! ### what is read -/
theorem red_int {i : Int} {v : V} (h : Red K H G (.int i) v) : v = .int i := by
  rcases h with h | ⟨_, _, _, _, w⟩
  · simpa only [Rep] using h
  · exact w.elim
theorem red_bl {i : Bool} {v : V} (h : Red K H G (.bl i) v) : v = .bl i := by
  rcases h with h | ⟨_, _, _, _, w⟩
  · simpa only [Rep] using h
  · exact w.elim
theorem red_non {v : V} (h : Red K H G .non v) : v = .non := by
  rcases h with h | ⟨_, _, _, _, w⟩
  · simpa only [Rep] using h
  · exact w.elim
theorem red_str {x : List Nat} {v : V} (h : Red K H G (.str x) v) : v = .str (txS x) ∧ okT x := by
  rcases h with h | ⟨_, _, _, _, w⟩
  · simpa only [Rep] using h
  · exact w.elim
theorem red_lst {xs : List D} {v : V} (s : SubH G H) (h : Red K H G (.lst xs) v) : ∃ a vs, v = .ref a ∧ H a = some (.lst vs) ∧ RepL K G xs vs := by
  rcases h with h | ⟨a, o, e, ha, w⟩
  · simp only [Rep] at h
    obtain ⟨a, vs, e, g, r⟩ := h
    exact ⟨a, vs, e, s.lst g, r⟩
  · obtain ⟨vs, e2, r⟩ := w
    subst e2
    exact ⟨a, vs, e, ha, r⟩
theorem red_tup {xs : List D} {v : V} (s : SubH G H) (h : Red K H G (.tup xs) v) : ∃ a vs, v = .ref a ∧ SqT K H a vs ∧ RepL K G xs vs := by
  rcases h with h | ⟨a, o, e, ha, w⟩
  · simp only [Rep] at h
    obtain ⟨a, vs, e, g, r⟩ := h
    exact ⟨a, vs, e, s.sqT g, r⟩
  · exact w.elim
theorem line_eq : line = sizeLine := by rw [sizeLine_eq]; rfl
theorem len_txS (x : List Nat) : (txS x).length = x.length := by
  show (txS x).cps.size = _
  simp [txS]
theorem txS_append (x y : List Nat) : txS (x ++ y) = txS x ++ txS y := by
  show (⟨(x ++ y).toArray⟩ : Str) = ⟨x.toArray ++ y.toArray⟩
  simp

def BinS (X : Cx) (T : List (Addr × Str)) (f : Value → Value → Sem Value) (g : D → D → Option (D × Bool)) : Prop :=
  OpR X f (fun x y H Q => ∃ G dx dy r, Gd X.K T H G ∧ Red X.K H G dx x ∧ Red X.K H G dy y ∧ g dx dy = some r ∧ Then X.K T H G r Q)
theorem Then.imm {d : D} {v : V} {Q : VK} (g : Gd K T H G) (h : Then K T H G (d, false) Q) (r : Rep K G d v) : Q v H := h v H G (.refl g) (.imm r)
theorem Then.lst {p : Addr} {vs : List V} {ds : List D} {Q : VK} (g : Gd K T H G) (h : Then K T H G (.lst ds, true) Q) (n : H p = none) (r : RepL K G ds vs) : Q (.ref p) (upd H p (.lst vs)) :=
  h _ _ _ (.new g n) (.lst g.sub n r)
theorem Then.tup {p : Addr} {vs : List V} {ds : List D} {Q : VK} (g : Gd K T H G) (h : Then K T H G (.tup ds, false) Q) (n : H p = none) (r : RepL K G ds vs) : Q (.ref p) (upd H p (.tup vs)) :=
  h _ _ _ (.newG g n fun ps e => by cases e) (.tup g.sub n r)
theorem rep_int {i : Int} : Rep K G (.int i) (.int i) := by simp only [Rep]
theorem rep_bl {i : Bool} : Rep K G (.bl i) (.bl i) := by simp only [Rep]
theorem rep_non : Rep K G .non .non := by simp only [Rep]
theorem rep_str {x : List Nat} (h : okT x) : Rep K G (.str x) (.str (txS x)) := by simp only [Rep]; exact ⟨trivial, h⟩
theorem rep_tup {xs : List D} {a : Addr} {vs : List V} (h : SqT K G a vs) (r : RepL K G xs vs) : Rep K G (.tup xs) (.ref a) := by simp only [Rep]; exact ⟨a, vs, rfl, h, r⟩
/-- a tuple that reads so stands in the ground -/
theorem red_tupG {xs : List D} {v : V} (h : Red K H G (.tup xs) v) : Rep K G (.tup xs) v := by
  rcases h with h | ⟨_, _, _, _, w⟩
  · exact h
  · exact w.elim
end

section
variable {X : Cx} {T : List (Addr × Str)}
theorem sm64_of {i : Int} (h : sm64 i = true) : -(2 ^ 64) < i ∧ i < 2 ^ 64 := by
  unfold sm64 at h
  rw [Bool.and_eq_true, decide_eq_true_eq, decide_eq_true_eq] at h
  exact ⟨by omega, by omega⟩
theorem smB_of {i : Int} (h : smB i = true) : -16777216 ≤ i ∧ i ≤ 16777216 := by
  unfold smB at h
  rw [Bool.and_eq_true, decide_eq_true_eq, decide_eq_true_eq] at h
  exact h
theorem bin_add : BinS X T (binaryOp .Add) (binop .add) := by
  intro pins s σ H x y v u Q I rx ry ⟨G, dx, dy, r, gd, hx, hy, e, h⟩
  unfold binop at e
  split at e <;> first | (cases e; done) | (rename_i q; cases q; done) | skip
  · cases e
    exact op_add pins s σ H x y v u Q I rx ry ⟨_, _, red_int hx, red_int hy, h.imm gd rep_int⟩
  · split at e
    · rename_i hl
      cases e
      obtain ⟨e1, o1⟩ := red_str hx
      obtain ⟨e2, o2⟩ := red_str hy
      refine op_add_str pins s σ H x y v u Q I rx ry ⟨_, _, e1, e2, by rw [len_txS, len_txS, ← line_eq]; exact hl, ?_⟩
      rw [← txS_append]
      exact h.imm gd (rep_str (okT_append o1 o2))
    · cases e
  · split at e
    · rename_i hl
      cases e
      obtain ⟨a, vs, e1, h1, r1⟩ := red_lst gd.sub hx
      obtain ⟨b, ws, e2, h2, r2⟩ := red_lst gd.sub hy
      exact op_cat pins s σ H x y v u Q I rx ry ⟨a, b, vs, ws, e1, e2, h1, h2, by rw [r1.length, r2.length, ← line_eq]; exact hl, fun p np => h.lst gd np (r1.append r2)⟩
    · cases e
  · split at e
    · rename_i ds es _ hl
      cases e
      obtain ⟨a, vs, e1, h1, r1⟩ := red_tup gd.sub hx
      obtain ⟨b, ws, e2, h2, r2⟩ := red_tup gd.sub hy
      refine op_catA pins s σ H x y v u Q I rx ry ⟨a, b, vs, ws, e1, e2, h1, h2, by rw [r1.length, r2.length, ← line_eq]; exact hl, fun z => ?_, fun _ z => ?_, fun _ _ p np => h.tup gd np (r1.append r2)⟩
      · subst z
        have : ds = [] := List.eq_nil_of_length_eq_zero (by rw [← r1.length]; rfl)
        subst this
        rw [← e2]
        exact h.imm gd (red_tupG hy)
      · subst z
        have : es = [] := List.eq_nil_of_length_eq_zero (by rw [← r2.length]; rfl)
        subst this
        rw [← e1]
        have z := red_tupG hx
        rw [List.append_nil] at h
        exact h.imm gd z
    · cases e
theorem bin_sub : BinS X T (binaryOp .Sub) (binop .sub) := by
  intro pins s σ H x y v u Q I rx ry ⟨G, dx, dy, r, gd, hx, hy, e, h⟩
  unfold binop at e
  split at e <;> first | (cases e; done) | (rename_i q; cases q; done) | skip
  cases e
  exact op_sub pins s σ H x y v u Q I rx ry ⟨_, _, red_int hx, red_int hy, h.imm gd rep_int⟩
theorem bin_fdiv : BinS X T (binaryOp .FloorDiv) (binop .fdiv) := by
  intro pins s σ H x y v u Q I rx ry ⟨G, dx, dy, r, gd, hx, hy, e, h⟩
  unfold binop at e
  split at e <;> first | (cases e; done) | (rename_i q; cases q; done) | skip
  split at e
  · rename_i hc
    cases e
    rw [Bool.and_eq_true, decide_eq_true_eq, decide_eq_true_eq] at hc
    exact op_fdivN pins s σ H x y v u Q I rx ry ⟨_, _, red_int hx, red_int hy, hc, h.imm gd rep_int⟩
  · cases e
theorem bin_mod : BinS X T (binaryOp .Mod) (binop .mod) := by
  intro pins s σ H x y v u Q I rx ry ⟨G, dx, dy, r, gd, hx, hy, e, h⟩
  unfold binop at e
  split at e <;> first | (cases e; done) | (rename_i q; cases q; done) | skip
  split at e
  · rename_i hc
    cases e
    exact op_modN pins s σ H x y v u Q I rx ry ⟨_, _, red_int hx, red_int hy, hc, h.imm gd rep_int⟩
  · cases e
theorem bin_pow : BinS X T (binaryOp .Pow) (binop .pow) := by
  intro pins s σ H x y v u Q I rx ry ⟨G, dx, dy, r, gd, hx, hy, e, h⟩
  unfold binop at e
  split at e <;> first | (cases e; done) | (rename_i q; cases q; done) | skip
  split at e
  · rename_i hc
    cases e
    rw [Bool.and_eq_true, Bool.and_eq_true, decide_eq_true_eq, decide_eq_true_eq, decide_eq_true_eq] at hc
    exact op_pow pins s σ H x y v u Q I rx ry ⟨_, _, red_int hx, red_int hy, ⟨hc.1.1, hc.1.2, by omega⟩, h.imm gd rep_int⟩
  · cases e
/-! ### times -/
theorem okT_rep {x : List Nat} (h : okT x) (n : Nat) : okT (rep n x) := okT_sub h fun c hc => by
  unfold rep at hc
  obtain ⟨l, h1, h2⟩ := List.mem_flatten.mp hc
  rw [(List.mem_replicate.mp h1).2] at h2
  exact h2
theorem foldl_app (x : Array Nat) : ∀ (k : Nat) (acc : List Nat), (List.replicate k x).foldl (fun a b => a ++ b) acc.toArray = (acc ++ (List.replicate k x.toList).flatten).toArray
  | 0, acc => by simp
  | k + 1, acc => by
    rw [List.replicate_succ, List.foldl_cons, List.replicate_succ, List.flatten_cons]
    have : acc.toArray ++ x = (acc ++ x.toList).toArray := by
      apply Array.ext'
      simp
    rw [this, foldl_app x k, List.append_assoc]
theorem txt_mul (x : List Nat) (j : Int) : Txt.mul (txS x) j = txS (rep j.toNat x) := by
  unfold Txt.mul
  by_cases h1 : j < 1
  · rw [if_pos h1]
    have : j.toNat = 0 := by omega
    rw [this]
    rfl
  · rw [if_neg h1]
    by_cases h2 : (j == 1 || (txS x).length == 0) = true
    · rw [if_pos h2]
      rw [Bool.or_eq_true, beq_iff_eq, beq_iff_eq, len_txS] at h2
      rcases h2 with h2 | h2
      · subst h2
        show txS x = txS (x ++ [])
        rw [List.append_nil]
      · have e : x = [] := List.eq_nil_of_length_eq_zero h2
        have e2 : ∀ n : Nat, rep n ([] : List Nat) = [] := fun n => by
          induction n with
          | zero => rfl
          | succ n ih => exact ih
        rw [e, e2]
    · rw [if_neg h2]
      have z := foldl_app (txS x).cps j.toNat []
      rw [List.nil_append, txS_toList] at z
      exact congrArg Str.mk z
theorem mul_strK (x : List Nat) (j : Int) (hj : -16777216 ≤ j ∧ j ≤ 16777216) (hl : x.length * j.toNat ≤ line) : MulOk (txS x) j := by
  have hl' : x.length * j.toNat ≤ 16777216 := hl
  refine ⟨?_, fun h1 h2 => ?_, fun h1 h2 => ?_⟩
  · rw [decide_eq_false (by omega), decide_eq_false (by omega)]
    rfl
  · rw [len_txS]
    have a1 : (x.length : Int) * j ≤ 16777216 := by
      have e : j = (j.toNat : Int) := by omega
      have z : ((x.length * j.toNat : Nat) : Int) ≤ ((16777216 : Nat) : Int) := Int.ofNat_le.mpr hl'
      rw [Int.natCast_mul, ← e] at z
      exact z
    have a2 : (x.length : Int) ≤ 16777216 := by
      have : (x.length : Int) * 1 ≤ (x.length : Int) * j := Int.mul_le_mul_of_nonneg_left (by omega) (by omega)
      omega
    have a3 : (16777216 : Int) ≤ (2 ^ 63 - 1) / j := by
      rw [Int.le_ediv_iff_mul_le (by omega)]
      have : (16777216 : Int) * j ≤ 16777216 * 16777216 := Int.mul_le_mul_of_nonneg_left hj.2 (by omega)
      omega
    omega
  · rw [len_txS]
    unfold PySem.Builtin.Str.tooLong
    rw [sizeLine_eq]
    exact decide_eq_false (by omega)
end
theorem tuple_mul1 (l : Addr) (items : Array Value) (n : Nat) (dd : Option Addr) (sl : Array (Option Value)) (x : Int) (u : Tok) (c0 : (decide (x < -(2 ^ 63)) || decide (x ≥ 2 ^ 63)) = false) (c1 : (items.isEmpty || x == 1) = true) :
    Meets (Builtin.«tuple.__mul__» ⟨[.ref l, .int x u], []⟩) (fun _ R s => s.heap.get? l = some { cls := .type "tuple", dict := dd, data := .seq items n, slots := sl } ∧ R (.ok (.ret (Value.ref l))) s) :=
  .of_wp fun prog w A R s h => by
    obtain ⟨hp, g, d, tk, os⟩ := s
    obtain ⟨hl, h⟩ := h
    have f1 := AutoSeq1.idx_int
    wp_walk using wpAny_loadPart' hl
    repeat (first
      | (refine wpAny_ite_false (decide_eq_false (by rw [c0]; exact Bool.false_ne_true)) ?_; wp_walk using wpAny_loadPart' hl)
      | (refine wpAny_ite_true (decide_eq_true c1) ?_; wp_walk using wpAny_loadPart' hl))
    exact ⟨_, rfl, h⟩
theorem tuple_mul0 (l : Addr) (items : Array Value) (n : Nat) (dd : Option Addr) (sl : Array (Option Value)) (x : Int) (u : Tok) (c0 : (decide (x < -(2 ^ 63)) || decide (x ≥ 2 ^ 63)) = false) (c1 : (items.isEmpty || x == 1) = false) (c2 : (decide (x ≤ 0) || items.isEmpty) = true) :
    Meets (Builtin.«tuple.__mul__» ⟨[.ref l, .int x u], []⟩) (fun _ R s => s.heap.get? l = some { cls := .type "tuple", dict := dd, data := .seq items n, slots := sl } ∧
      R (.ok (.ret (Value.ref s.heap.objs.size))) { s with heap := s.heap.push { cls := Value.type "tuple", data := Data.seq #[] }, toks := s.toks }) :=
  .of_wp fun prog w A R s h => by
    obtain ⟨hp, g, d, tk, os⟩ := s
    obtain ⟨hl, h⟩ := h
    have f1 := AutoSeq1.idx_int
    wp_walk using wpAny_loadPart' hl
    repeat (first
      | (refine wpAny_ite_false (decide_eq_false (by rw [c0]; exact Bool.false_ne_true)) ?_; wp_walk using wpAny_loadPart' hl)
      | (refine wpAny_ite_false (decide_eq_false (by rw [c1]; exact Bool.false_ne_true)) ?_; wp_walk using wpAny_loadPart' hl)
      | (refine wpAny_ite_true (decide_eq_true c2) ?_; wp_walk using wpAny_loadPart' hl))
    exact ⟨_, rfl, h⟩
section
variable {X : Cx} {T : List (Addr × Str)}
/-- t * n of a tuple, whatever n -/
theorem op_repT0 : OpR X (binaryOp .Mult) (fun x y H Q => ∃ l k xs, x = .ref l ∧ y = .int k ∧ SqT X.K H l xs ∧ -16777216 ≤ k ∧ k ≤ 16777216 ∧ xs.length * k.toNat ≤ sizeLine ∧
    (xs = [] → Q (.ref l) H) ∧ (k = 1 → Q (.ref l) H) ∧ ∀ p, H p = none → Q (.ref p) (upd H p (.tup (List.replicate k.toNat xs).flatten))) := by
  intro pins s σ H x y v u Q I rx ry h
  obtain ⟨l, k, xs, rfl, rfl, hT, h1, h2, hz, q0, q1, q⟩ := h
  cases rx
  obtain ⟨t, rfl⟩ := ry
  obtain ⟨its, r, ⟨⟨cls, dd, data, sl⟩, ho, hc, n, hd⟩, hs⟩ := I.tuple hT
  simp only at hc hd
  subst hc hd
  have hle : its.length = xs.length := r.length.symm
  have c0 : (decide (k < -(2 ^ 63)) || decide (k ≥ 2 ^ 63)) = false := by
    rw [decide_eq_false (by omega), decide_eq_false (by omega)] <;> rfl
  have road : wpAny (model X.prog X.w) X.A (call (.builtin "tuple.__mul__") [.ref l, .int k t]) (EP X pins σ Q) X.xe s → wpAny (model X.prog X.w) X.A (binaryOp .Mult (.ref l) (.int k t)) (EP X pins σ Q) X.xe s := fun hh =>
    wpAny_binaryOp_repeat_ref (T := "tuple") (U := "int") (by decide) ⟨_, ho, rfl⟩ (fun s' => typeIs_int s' k t) noFill_tuple_mul F.fills_int_mul F.slot_int_rmul repeat_tuple F.slot_int_index.lookup
      (call_meets F.slot_int_rmul (typeIs_int s k t) F.entry_int_rmul (F.args_int_rmul_2 _ _) (int_rmul_tuple k t l its.toArray n dd sl) ⟨ho, rfl, ⟨_, ho, rfl⟩, hh⟩)
  refine road ?_
  by_cases c1 : (its.toArray.isEmpty || k == 1) = true
  · refine call_meets F.slot_tuple_mul ⟨_, ho, rfl⟩ F.entry_tuple_mul (F.args_tuple_mul_2 _ _) (tuple_mul1 l its.toArray n dd sl k t c0 c1) ⟨ho, ?_⟩
    refine ⟨.ref l, H, I, rfl, ?_⟩
    rw [Bool.or_eq_true, beq_iff_eq] at c1
    rcases c1 with c1 | c1
    · refine q0 (List.eq_nil_of_length_eq_zero ?_)
      rw [← hle]
      cases its with
      | nil => rfl
      | cons a b => cases c1
    · exact q1 c1
  · have c1 : (its.toArray.isEmpty || k == 1) = false := Bool.eq_false_iff.mpr c1
    have fresh : ∀ {ys : List V} {us : List Value}, Vals ys us → ys.length ≤ sizeLine → Q (.ref s.heap.objs.size) (upd H s.heap.objs.size (.tup ys)) → EP X pins σ Q (Value.ref s.heap.objs.size) { s with heap := s.heap.push { cls := Value.type "tuple", data := Data.seq us.toArray }, toks := s.toks } := fun {ys us} rr hz2 qq =>
      ⟨.ref s.heap.objs.size, _, I.laid (t' := s.toks) (o := .tup ys) (fun b ob e => Heap.get?_push_of_some _ e) (Nat.le_refl _) ⟨hz2, _, rr, IsTup.new _ _⟩, rfl, qq⟩
    by_cases c2 : (decide (k ≤ 0) || its.toArray.isEmpty) = true
    · refine call_meets F.slot_tuple_mul ⟨_, ho, rfl⟩ F.entry_tuple_mul (F.args_tuple_mul_2 _ _) (tuple_mul0 l its.toArray n dd sl k t c0 c1 c2) ⟨ho, ?_⟩
      have z := q _ (I.hok.fresh (Nat.le_refl _))
      rw [Bool.or_eq_false_iff] at c1
      rw [c1.1, Bool.or_false, decide_eq_true_eq] at c2
      rw [show k.toNat = 0 by omega] at z
      exact fresh (ys := []) (us := []) .nil (Nat.zero_le _) z
    · have c2 : (decide (k ≤ 0) || its.toArray.isEmpty) = false := Bool.eq_false_iff.mpr c2
      have hk : 0 < k := by
        rw [Bool.or_eq_false_iff, decide_eq_false_iff_not] at c2
        omega
      have hm : ((its.toArray.size : Nat) : Int) * k ≤ 16777216 := by
        have hz' : xs.length * k.toNat ≤ 16777216 := hz
        rw [List.size_toArray, hle]
        have e : k = (k.toNat : Int) := by omega
        have z : ((xs.length * k.toNat : Nat) : Int) ≤ ((16777216 : Nat) : Int) := Int.ofNat_le.mpr hz'
        rw [Int.natCast_mul, ← e] at z
        exact z
      have flen : (List.replicate k.toNat its).flatten.length ≤ sizeLine := by
        rw [PyProof.Rows.lm_len_rep_flat, hle, Nat.mul_comm]
        exact hz
      have c4 : Builtin.Tuple.tupleTooMany (((its.toArray.size : Nat) : Int) * k) = false := by
        unfold Builtin.Tuple.tupleTooMany
        rw [sizeLine_eq]
        exact decide_eq_false (by omega)
      refine call_meets F.slot_tuple_mul ⟨_, ho, rfl⟩ F.entry_tuple_mul (F.args_tuple_mul_2 _ _) (tuple_mulW l its.toArray n dd sl k t c0 c1 c2 (by omega) c4 (by rw [size_rep, List.size_toArray]; exact flen)) ⟨ho, ?_⟩
      rw [size_rep]
      exact fresh (r.rep k.toNat) (by rw [PyProof.Rows.lm_len_rep_flat, Nat.mul_comm]; exact hz) (q _ (I.hok.fresh (Nat.le_refl _)))
theorem rep_one {α : Type} (x : List α) : rep 1 x = x := by
  show x ++ [] = x
  exact List.append_nil x
theorem rep_nil {α : Type} : ∀ n : Nat, rep n ([] : List α) = []
  | 0 => rfl
  | n + 1 => rep_nil n
theorem bin_mul : BinS X T (binaryOp .Mult) (binop .mul) := by
  intro pins s σ H x y v u Q I rx ry ⟨G, dx, dy, r, gd, hx, hy, e, h⟩
  unfold binop at e
  split at e <;> first | (cases e; done) | (rename_i q; cases q; done) | skip
  · split at e
    · rename_i i j _ hc
      cases e
      rw [Bool.or_eq_true, Bool.or_eq_true] at hc
      rcases hc with (hc | hc) | hc
      · exact op_mul pins s σ H x y v u Q I rx ry ⟨_, _, red_int hx, red_int hy, .inl (sm64_of hc), h.imm gd rep_int⟩
      · exact op_mul pins s σ H x y v u Q I rx ry ⟨_, _, red_int hx, red_int hy, .inr (sm64_of hc), h.imm gd rep_int⟩
      · rw [Bool.and_eq_true, decide_eq_true_eq, decide_eq_true_eq] at hc
        exact op_mulW pins s σ H x y v u Q I rx ry ⟨_, _, red_int hx, red_int hy, wide_mul hc.1 hc.2 (by decide) (by decide) (by decide), h.imm gd rep_int⟩
    · cases e
  · split at e
    · rename_i hc
      cases e
      rw [Bool.and_eq_true, decide_eq_true_eq] at hc
      obtain ⟨e1, o1⟩ := red_str hx
      have e2 := red_int hy
      subst e1 e2
      obtain ⟨t, rfl⟩ := rx
      obtain ⟨t', rfl⟩ := ry
      refine SB.mul (mul_strK _ _ (smB_of hc.1) hc.2) fun t2 k => ⟨.str (txS (rep _ _)), H, I.tok k, ⟨t2, ?_⟩, h.imm gd (rep_str (okT_rep o1 _))⟩
      rw [txt_mul]
    · cases e
  · split at e
    · rename_i hc
      cases e
      rw [Bool.and_eq_true, decide_eq_true_eq] at hc
      obtain ⟨a, vs, e1, h1, r1⟩ := red_lst gd.sub hx
      have hb := smB_of hc.1
      exact op_rep pins s σ H x y v u Q I rx ry ⟨a, _, vs, e1, red_int hy, h1, by omega, by omega, by rw [r1.length, ← line_eq]; exact hc.2, fun p np => h.lst gd np (r1.rep _)⟩
    · cases e
  · split at e
    · rename_i hc
      cases e
      rw [Bool.and_eq_true, decide_eq_true_eq] at hc
      obtain ⟨a, vs, e1, h1, r1⟩ := red_tup gd.sub hx
      have hb := smB_of hc.1
      refine op_repT0 pins s σ H x y v u Q I rx ry ⟨a, _, vs, e1, red_int hy, h1, hb.1, hb.2, by rw [r1.length, ← line_eq]; exact hc.2, fun z => ?_, fun z => ?_, fun p np => h.tup gd np (r1.rep _)⟩
      · subst z
        have z2 : _ = [] := List.eq_nil_of_length_eq_zero (by rw [← r1.length]; rfl)
        subst z2
        rw [rep_nil] at h
        rw [← e1]
        exact h.imm gd (red_tupG hx)
      · subst z
        rw [show (1 : Int).toNat = 1 from rfl, rep_one] at h
        rw [← e1]
        exact h.imm gd (red_tupG hx)
    · cases e
def pyop : BOp → Operator
  | .add => .Add
  | .sub => .Sub
  | .mul => .Mult
  | .fdiv => .FloorDiv
  | .mod => .Mod
  | .pow => .Pow
theorem bin_ok (o : BOp) : BinS X T (binaryOp (pyop o)) (binop o) := by
  cases o
  · exact bin_add
  · exact bin_sub
  · exact bin_mul
  · exact bin_fdiv
  · exact bin_mod
  · exact bin_pow
end
end Kn

end

section
/-! K, dicts. -/
namespace Kn
open PySem PySem.Spec PyProof.Rows L2

def keyOf : D → Key
  | .int i => .inl i
  | .str x => .inr (txS x)
  | _ => .inl 0
theorem keyD_of : ∀ {d : D}, dkey0 d = true → keyD (keyOf d) = d
  | .int _, _ => rfl
  | .str x, _ => by simp only [keyOf, keyD]
  | .non, h => by cases h
  | .bl _, h => by cases h
  | .lst _, h => by cases h
  | .tup _, h => by cases h
  | .dic _ _, h => by cases h
  | .scr _, h => by cases h
theorem keyOf_keyD : ∀ k : Key, keyOf (keyD k) = k
  | .inl _ => rfl
  | .inr x => by simp only [keyD, keyOf]
theorem isKey_keyD {a : D} (h : dkey0 a = true) (k : Key) : D.isKey a (keyD k) = decide (k = keyOf a) := by
  cases a with
  | int i =>
    cases k with
    | inl j =>
      simp only [keyD, D.isKey, keyOf]
      by_cases e : i = j
      · subst e; simp
      · rw [beq_eq_false_iff_ne.mpr e]
        exact (decide_eq_false fun z => e (Sum.inl.inj z).symm).symm
    | inr x => simp only [keyD, D.isKey, keyOf]; exact (decide_eq_false fun z => nomatch z).symm
  | str y =>
    cases k with
    | inl j => simp only [keyD, D.isKey, keyOf]; exact (decide_eq_false fun z => nomatch z).symm
    | inr x =>
      simp only [keyD, D.isKey, keyOf]
      by_cases e : y = x.cps.toList
      · subst e; simp [txS_of]
      · rw [beq_eq_false_iff_ne.mpr e]
        refine (decide_eq_false fun z => e ?_).symm
        rw [Sum.inr.inj z, txS_toList]
  | _ => cases h
theorem keyD_dkey0 : ∀ k : Key, dkey0 (keyD k) = true
  | .inl _ => rfl
  | .inr _ => rfl
section
variable {K : PySem.W.Frag} {T : List (Addr × Str)} {H G : Hp}
theorem rep_key {d : D} {v : V} (h : dkey0 d = true) (r : Rep K G d v) : v = kV (keyOf d) ∧ okK (keyOf d) := by
  cases d with
  | int i => simp only [Rep] at r; exact ⟨r, trivial⟩
  | str x =>
    simp only [Rep] at r
    exact ⟨r.1, by show okT (txS x).cps.toList; rw [txS_toList]; exact r.2⟩
  | _ => cases h
theorem red_key {d : D} {v : V} (h : dkey0 d = true) (r : Red K H G d v) : v = kV (keyOf d) ∧ okK (keyOf d) := by
  rcases r with r | ⟨a, o, e, ha, w⟩
  · exact rep_key h r
  · cases d with
    | int i => exact w.elim
    | str x => exact w.elim
    | _ => cases h
/-- what stands at a key -/
theorem look_K {a : D} (h : dkey0 a = true) : ∀ {kvs : List (Key × V)} {ws : List D}, RepL K G ws (kvs.map (·.2)) → match look a (kvs.map fun p => keyD p.1) ws with
    | some d => ∃ u, valV kvs (keyOf a) = some u ∧ Rep K G d u
    | none => valV kvs (keyOf a) = none
  | [], ws, r => by cases ws <;> exact valV_nil
  | p :: kvs, [], r => by simp only [List.map_cons, RepL] at r; cases r
  | p :: kvs, w :: ws, r => by
    obtain ⟨v, rr, e, h1, h2⟩ := r.uncons
    rw [List.map_cons] at e
    injection e with e1 e2
    subst e1 e2
    rw [List.map_cons]
    unfold look
    rw [isKey_keyD h]
    by_cases hk : p.1 = keyOf a
    · rw [decide_eq_true hk]
      exact ⟨_, valV_pos hk, h1⟩
    · rw [decide_eq_false hk, valV_neg hk]
      exact look_K h h2
theorem all_keyD {kvs : List (List Key × V)} (h : (kvs.map fun p => D.tup (p.1.map keyD)).all dkey0 = true) : kvs = [] := by
  cases kvs with
  | nil => rfl
  | cons p r => simp only [List.map_cons, List.all_cons] at h; cases h
theorem all_isTup {kvs : List (Key × V)} (h : (kvs.map fun p => keyD p.1).all isTup = true) : kvs = [] := by
  cases kvs with
  | nil => rfl
  | cons p r =>
    obtain ⟨k, v⟩ := p
    cases k <;> (simp only [List.map_cons, List.all_cons] at h; cases h)
/-- a dict that reads so -/
theorem red_dic {ks ws : List D} {v : V} (s : SubH G H) (h : Red K H G (.dic ks ws) v) : ∃ a, v = .ref a ∧ ((∃ kvs : List (Key × V), Rd H a (.dK kvs) ∧ ks = kvs.map (fun p => keyD p.1) ∧ (∀ p ∈ kvs, okK p.1) ∧ (kvs.map (·.1)).Nodup ∧ RepL K G ws (kvs.map (·.2))) ∨
      ∃ kvs : List (List Key × V), Rd H a (.dT kvs) ∧ ks = kvs.map (fun p => D.tup (p.1.map keyD)) ∧ (kvs ≠ [] ∧ ∀ p ∈ kvs, ∀ k ∈ p.1, okK k) ∧ (kvs.map (·.1)).Nodup ∧ RepL K G ws (kvs.map (·.2))) := by
  rcases h with h | ⟨a, o, e, ha, w⟩
  · simp only [Rep] at h
    obtain ⟨a, e, h⟩ := h
    refine ⟨a, e, ?_⟩
    rcases h with ⟨kvs, g, r⟩ | ⟨kvs, g, r⟩
    · exact .inl ⟨kvs, s.rd g, r⟩
    · exact .inr ⟨kvs, s.rd g, r⟩
  · refine ⟨a, e, ?_⟩
    rcases w with ⟨kvs, e2, r⟩ | ⟨kvs, e2, r⟩
    · subst e2
      exact .inl ⟨kvs, .inl ha, r⟩
    · subst e2
      exact .inr ⟨kvs, .inl ha, r⟩
/-- a dict of plain keys, as data -/
structure IsK (K : PySem.W.Frag) (G : Hp) (ks ws : List D) (kvs : List (Key × V)) : Prop where
  keys : ks = kvs.map fun p => keyD p.1
  ok : ∀ p ∈ kvs, okK p.1
  nd : (kvs.map (·.1)).Nodup
  vals : RepL K G ws (kvs.map (·.2))
theorem IsK.nil : IsK K G [] [] [] := ⟨rfl, (fun _ h => by cases h), List.nodup_nil, RepL.nil⟩
theorem IsK.own {ks ws : List D} {kvs : List (Key × V)} (h : IsK K G ks ws kvs) : OwnO K G (.dic ks ws) (.dK kvs) := .inl ⟨kvs, rfl, h.keys, h.ok, h.nd, h.vals⟩
theorem IsK.sub {G' : Hp} {ks ws : List D} {kvs : List (Key × V)} (s : Sub G G') (h : IsK K G ks ws kvs) : IsK K G' ks ws kvs := ⟨h.keys, h.ok, h.nd, RepL.sub s ws h.vals⟩
theorem hasKey_any {a : D} (h : dkey0 a = true) : ∀ kvs : List (Key × V), hasKey a (kvs.map fun p => keyD p.1) = kvs.any fun p => decide (p.1 = keyOf a)
  | [] => rfl
  | p :: kvs => by
    have ih := hasKey_any h kvs
    unfold hasKey at ih ⊢
    rw [List.map_cons, List.any_cons, List.any_cons, ih, isKey_keyD h]
theorem any_mem {k : Key} {kvs : List (Key × V)} : (kvs.any fun p => decide (p.1 = k)) = true ↔ k ∈ kvs.map (·.1) := by
  rw [List.any_eq_true]
  constructor
  · rintro ⟨p, hp, e⟩
    rw [← of_decide_eq_true e]
    exact List.mem_map.mpr ⟨p, hp, rfl⟩
  · intro hk
    obtain ⟨p, hp, e⟩ := List.mem_map.mp hk
    exact ⟨p, hp, decide_eq_true e⟩
theorem putVs_rep {a d : D} {v : V} (h : dkey0 a = true) (r : Rep K G d v) : ∀ {kvs : List (Key × V)} {ws : List D}, RepL K G ws (kvs.map (·.2)) →
    RepL K G (putVs a d (kvs.map fun p => keyD p.1) ws) ((kvs.map fun kv => if kv.1 = keyOf a then (kv.1, v) else kv).map (·.2))
  | [], ws, q => by cases ws <;> exact q
  | p :: kvs, [], q => by simp only [List.map_cons, RepL] at q; cases q
  | p :: kvs, w :: ws, q => by
    obtain ⟨u, rr, e, h1, h2⟩ := q.uncons
    rw [List.map_cons] at e
    injection e with e1 e2
    subst e1 e2
    have ih := putVs_rep h r h2
    rw [List.map_cons, List.map_cons, List.map_cons]
    unfold putVs
    rw [isKey_keyD h]
    by_cases hk : p.1 = keyOf a
    · rw [decide_eq_true hk, if_pos hk, if_pos rfl]
      exact .cons r ih
    · rw [decide_eq_false hk, if_neg hk, if_neg Bool.false_ne_true]
      exact .cons h1 ih
theorem map_fst (k : Key) (v : V) (kvs : List (Key × V)) : (kvs.map fun kv => if kv.1 = k then (kv.1, v) else kv).map (·.1) = kvs.map (·.1) := by
  rw [List.map_map]
  refine List.map_congr_left fun p _ => ?_
  show (if p.1 = k then (p.1, v) else p).1 = p.1
  split <;> rfl
theorem IsK.put {ks ws : List D} {kvs : List (Key × V)} {a d : D} {v : V} (q : IsK K G ks ws kvs) (h : dkey0 a = true) (o : okK (keyOf a)) (r : Rep K G d v) : IsK K G (putD a d ks ws).1 (putD a d ks ws).2 (putK kvs (keyOf a) v) := by
  obtain ⟨e, ok, nd, vals⟩ := q
  subst e
  unfold putD putK
  rw [hasKey_any h]
  by_cases hh : (kvs.any fun p => decide (p.1 = keyOf a)) = true
  · rw [if_pos hh, if_pos hh]
    refine ⟨?_, fun p hp => ?_, by rw [map_fst]; exact nd, putVs_rep h r vals⟩
    · have z := congrArg (List.map keyD) (map_fst (keyOf a) v kvs)
      simp only [List.map_map] at z ⊢
      exact z.symm
    · have : p.1 ∈ (kvs.map fun kv => if kv.1 = keyOf a then (kv.1, v) else kv).map (·.1) := List.mem_map.mpr ⟨p, hp, rfl⟩
      rw [map_fst] at this
      obtain ⟨p', hp', e⟩ := List.mem_map.mp this
      rw [← e]
      exact ok p' hp'
  · rw [if_neg hh, if_neg hh]
    refine ⟨?_, fun p hp => ?_, ?_, ?_⟩
    · rw [List.map_append]
      show _ = _ ++ [keyD (keyOf a)]
      rw [keyD_of h]
    · rcases List.mem_append.mp hp with hp | hp
      · exact ok p hp
      · rw [List.mem_singleton] at hp
        subst hp
        exact o
    · rw [List.map_append]
      refine List.nodup_append.mpr ⟨nd, by simp, fun x hx y hy e => ?_⟩
      subst e
      have : x = keyOf a := by simpa using hy
      subst this
      exact hh (any_mem.mpr hx)
    · rw [List.map_append]
      exact vals.append (.cons r .nil)
theorem putD_len {a d : D} {ks ws : List D} : (putD a d ks ws).1.length ≤ ks.length + 1 := by
  unfold putD
  split
  · exact Nat.le_succ _
  · simp
end
end Kn

end

section
/-! K, comparisons by values. -/
namespace Kn
open PySem PySem.Spec PyProof.Rows L2

mutual
def toPy : D → PyData
  | .non => .none
  | .bl b => .bool b
  | .int i => .int i
  | .str x => .str (txS x)
  | .lst xs => .list (toPyL xs)
  | .tup xs => .tuple (toPyL xs)
  | .dic _ _ => .none
  | .scr _ => .none
def toPyL : List D → List PyData
  | [] => []
  | x :: xs => toPy x :: toPyL xs
end
theorem txS_beq (x y : List Nat) : (txS x == txS y) = (x == y) := by
  by_cases h : x = y
  · subst h; simp
  · rw [beq_eq_false_iff_ne.mpr h, beq_eq_false_iff_ne.mpr fun e => h (txS_inj e)]
mutual
theorem eqv_toPy : ∀ a b : D, a.dep ≤ 60 → b.dep ≤ 60 → D.eqv a b = PyData.eqv (toPy a) (toPy b)
  | .dic _ _, _, h, _ => by simp only [D.dep] at h; omega
  | .scr _, _, h, _ => by simp only [D.dep] at h; omega
  | .lst xs, b, h, h' => by
    cases b with
    | lst ys =>
      simp only [D.dep] at h h'
      simp only [D.eqv, toPy, PyData.eqv]
      exact eqv_toPyL xs ys (by omega) (by omega)
    | dic => simp only [D.dep] at h'; omega
    | scr => simp only [D.dep] at h'; omega
    | _ => simp only [D.eqv, toPy, PyData.eqv]
  | .tup xs, b, h, h' => by
    cases b with
    | tup ys =>
      simp only [D.dep] at h h'
      simp only [D.eqv, toPy, PyData.eqv]
      exact eqv_toPyL xs ys (by omega) (by omega)
    | dic => simp only [D.dep] at h'; omega
    | scr => simp only [D.dep] at h'; omega
    | _ => simp only [D.eqv, toPy, PyData.eqv]
  | .non, b, h, h' => by
    cases b with
    | dic => simp only [D.dep] at h'; omega
    | scr => simp only [D.dep] at h'; omega
    | _ => simp only [D.eqv, toPy, PyData.eqv]
  | .bl _, b, h, h' => by
    cases b with
    | dic => simp only [D.dep] at h'; omega
    | scr => simp only [D.dep] at h'; omega
    | _ => simp only [D.eqv, toPy, PyData.eqv]
  | .int _, b, h, h' => by
    cases b with
    | dic => simp only [D.dep] at h'; omega
    | scr => simp only [D.dep] at h'; omega
    | _ => simp only [D.eqv, toPy, PyData.eqv]
  | .str x, b, h, h' => by
    cases b with
    | dic => simp only [D.dep] at h'; omega
    | scr => simp only [D.dep] at h'; omega
    | str y => simp only [D.eqv, toPy, PyData.eqv]; exact (txS_beq x y).symm
    | _ => simp only [D.eqv, toPy, PyData.eqv]
theorem eqv_toPyL : ∀ a b : List D, D.depL a ≤ 60 → D.depL b ≤ 60 → D.eqvL a b = PyData.eqvAll (toPyL a) (toPyL b)
  | [], b, _, _ => by cases b <;> simp only [D.eqvL, toPyL, PyData.eqvAll]
  | x :: xs, [], _, _ => by simp only [D.eqvL, toPyL, PyData.eqvAll]
  | x :: xs, y :: ys, h, h' => by
    simp only [D.depL] at h h'
    simp only [D.eqvL, toPyL, PyData.eqvAll]
    rw [eqv_toPy x y (by omega) (by omega), eqv_toPyL xs ys (by omega) (by omega)]
end
mutual
theorem dep_toPy : ∀ a : D, (toPy a).depth ≤ a.dep
  | .lst xs => by simp only [toPy, PyData.depth, D.dep]; have := dep_toPyL xs; omega
  | .tup xs => by simp only [toPy, PyData.depth, D.dep]; have := dep_toPyL xs; omega
  | .non => by simp only [toPy, PyData.depth]; omega
  | .bl _ => by simp only [toPy, PyData.depth]; omega
  | .int _ => by simp only [toPy, PyData.depth]; omega
  | .str _ => by simp only [toPy, PyData.depth]; omega
  | .dic _ _ => by simp only [toPy, PyData.depth]; omega
  | .scr _ => by simp only [toPy, PyData.depth]; omega
theorem dep_toPyL : ∀ a : List D, PyData.depthAll (toPyL a) ≤ D.depL a
  | [] => by simp only [toPyL, PyData.depthAll]; omega
  | x :: xs => by
    simp only [toPyL, PyData.depthAll, D.depL]
    have h1 := dep_toPy x
    have h2 := dep_toPyL xs
    omega
end
section
variable {K : PySem.W.Frag} {T : List (Addr × Str)} {H G : Hp}
mutual
theorem lay_toPy : ∀ (a : D) {v : V}, Rep K G a v → (toPy a).canLay0 = true
  | .lst xs, _, h => by
    simp only [Rep] at h
    obtain ⟨a, vs, e, g, r⟩ := h
    simp only [toPy, PyData.canLay0]
    exact lay_toPyL xs r
  | .tup xs, _, h => by
    simp only [Rep] at h
    obtain ⟨a, vs, e, g, r⟩ := h
    simp only [toPy, PyData.canLay0]
    exact lay_toPyL xs r
  | .str x, _, h => by
    simp only [Rep] at h
    simp only [toPy, PyData.canLay0]
    exact h.2
  | .non, _, _ => by simp only [toPy, PyData.canLay0]
  | .bl _, _, _ => by simp only [toPy, PyData.canLay0]
  | .int _, _, _ => by simp only [toPy, PyData.canLay0]
  | .dic _ _, _, _ => by simp only [toPy, PyData.canLay0]
  | .scr _, _, _ => by simp only [toPy, PyData.canLay0]
theorem lay_toPyL : ∀ (a : List D) {vs : List V}, RepL K G a vs → PyData.canLayAll0 (toPyL a) = true
  | [], _, _ => by simp only [toPyL, PyData.canLayAll0]
  | x :: xs, _, h => by
    obtain ⟨v, r, e, h1, h2⟩ := h.uncons
    simp only [toPyL, PyData.canLayAll0, lay_toPy x h1, lay_toPyL xs h2, Bool.and_self]
end
mutual
theorem Rep.dp (s : SubH G H) : ∀ (a : D) {v : V}, Rep K G a v → a.dep ≤ 60 → Dp K H v (toPy a)
  | .lst xs, _, h, hd => by
    simp only [Rep] at h
    obtain ⟨a, vs, e, g, r⟩ := h
    subst e
    simp only [D.dep] at hd
    simp only [toPy]
    exact .lst (.of (s.lst g)) (RepL.dp s xs r (by omega))
  | .tup xs, _, h, hd => by
    simp only [Rep] at h
    obtain ⟨a, vs, e, g, r⟩ := h
    subst e
    simp only [D.dep] at hd
    simp only [toPy]
    exact .tup (s.sqT g) (RepL.dp s xs r (by omega))
  | .str x, _, h, _ => by simp only [Rep] at h; rw [h.1]; simp only [toPy]; exact .str _
  | .non, _, h, _ => by simp only [Rep] at h; subst h; simp only [toPy]; exact .non
  | .bl _, _, h, _ => by simp only [Rep] at h; subst h; simp only [toPy]; exact .bl _
  | .int _, _, h, _ => by simp only [Rep] at h; subst h; simp only [toPy]; exact .int _
  | .dic _ _, _, _, h => by simp only [D.dep] at h; omega
  | .scr _, _, _, h => by simp only [D.dep] at h; omega
theorem RepL.dp (s : SubH G H) : ∀ (a : List D) {vs : List V}, RepL K G a vs → D.depL a ≤ 60 → DpAll K H vs (toPyL a)
  | [], _, h, _ => by simp only [RepL] at h; subst h; simp only [toPyL]; exact .nil
  | x :: xs, _, h, hd => by
    obtain ⟨v, r, e, h1, h2⟩ := h.uncons
    subst e
    simp only [D.depL] at hd
    simp only [toPyL]
    exact .cons (Rep.dp s x h1 (by omega)) (RepL.dp s xs h2 (by omega))
end
theorem Red.dp {d : D} {v : V} (s : SubH G H) (h : Red K H G d v) (hd : d.dep ≤ 60) : Dp K H v (toPy d) := by
  rcases h with h | ⟨a, o, e, ha, w⟩
  · exact Rep.dp s d h hd
  · cases d with
    | lst xs =>
      obtain ⟨vs, e2, r⟩ := w
      subst e e2
      simp only [D.dep] at hd
      simp only [toPy]
      exact .lst (.of ha) (RepL.dp s xs r (by omega))
    | dic ks vs => simp only [D.dep] at hd; omega
    | _ => exact w.elim
theorem Red.lay {d : D} {v : V} (h : Red K H G d v) : (toPy d).canLay0 = true := by
  rcases h with h | ⟨a, o, e, ha, w⟩
  · exact lay_toPy d h
  · cases d with
    | lst xs =>
      obtain ⟨vs, e2, r⟩ := w
      simp only [toPy, PyData.canLay0]
      exact lay_toPyL xs r
    | dic ks vs => simp only [toPy, PyData.canLay0]
    | _ => exact w.elim
theorem Red.shaped {d : D} {v : V} (h : Red K H G d v) (hd : d.dep ≤ 60) : SeqAt.shaped (toPy d) = true := by
  unfold SeqAt.shaped
  have := dep_toPy d
  rw [h.lay, decide_eq_true (by omega)]
  rfl
end

def CmpS (X : Cx) (T : List (Addr × Str)) (f : Value → Value → Sem Value) (g : D → D → Option Bool) : Prop :=
  OpR X f (fun x y H Q => ∃ G dx dy b, Gd X.K T H G ∧ Red X.K H G dx x ∧ Red X.K H G dy y ∧ g dx dy = some b ∧ Q (.bl b) H)
section
variable {X : Cx} {T : List (Addr × Str)}
theorem cmp_lt : CmpS X T (compareOp .Lt) (cmpop .lt) := by
  intro pins s σ H x y v u Q I rx ry ⟨G, dx, dy, b, gd, hx, hy, e, h⟩
  unfold cmpop at e
  split at e <;> first | (cases e; done) | (rename_i q; cases q; done) | skip
  cases e
  exact op_lt pins s σ H x y v u Q I rx ry ⟨_, _, red_int hx, red_int hy, h⟩
theorem cmp_le : CmpS X T (compareOp .LtE) (cmpop .le) := by
  intro pins s σ H x y v u Q I rx ry ⟨G, dx, dy, b, gd, hx, hy, e, h⟩
  unfold cmpop at e
  split at e <;> first | (cases e; done) | (rename_i q; cases q; done) | skip
  cases e
  exact op_le pins s σ H x y v u Q I rx ry ⟨_, _, red_int hx, red_int hy, h⟩
theorem cmp_gt : CmpS X T (compareOp .Gt) (cmpop .gt) := by
  intro pins s σ H x y v u Q I rx ry ⟨G, dx, dy, b, gd, hx, hy, e, h⟩
  unfold cmpop at e
  split at e <;> first | (cases e; done) | (rename_i q; cases q; done) | skip
  cases e
  exact op_gt pins s σ H x y v u Q I rx ry ⟨_, _, red_int hx, red_int hy, h⟩
theorem cmp_ge : CmpS X T (compareOp .GtE) (cmpop .ge) := by
  intro pins s σ H x y v u Q I rx ry ⟨G, dx, dy, b, gd, hx, hy, e, h⟩
  unfold cmpop at e
  split at e <;> first | (cases e; done) | (rename_i q; cases q; done) | skip
  cases e
  exact op_ge pins s σ H x y v u Q I rx ry ⟨_, _, red_int hx, red_int hy, h⟩
theorem eqOk_of {a b : D} (h : eqOk a b = true) : a.dep ≤ 60 ∧ b.dep ≤ 60 := by
  unfold eqOk eqOk0 at h
  rw [Bool.and_eq_true, decide_eq_true_eq, decide_eq_true_eq] at h
  exact h
theorem cmp_eq (hu : X.A.units + 65 < cLine) : CmpS X T (compareOp .Eq) (cmpop .eq) := by
  intro pins s σ H x y v u Q I rx ry ⟨G, dx, dy, b, gd, hx, hy, e, h⟩
  have e : (if eqOk dx dy then some (D.eqv dx dy) else none) = some b := by rw [← e]; unfold cmpop; rfl
  split at e
  · rename_i hc
    cases e
    obtain ⟨h1, h2⟩ := eqOk_of hc
    rw [eqv_toPy dx dy h1 h2] at h
    exact op_eqD (by omega) pins s σ H x y v u Q I rx ry ⟨_, _, hx.dp gd.sub h1, hy.dp gd.sub h2, hx.shaped h1, hy.shaped h2, h⟩
  · cases e
theorem cmp_ne (hu : X.A.units + 65 < cLine) : CmpS X T (compareOp .NotEq) (cmpop .ne) := by
  intro pins s σ H x y v u Q I rx ry ⟨G, dx, dy, b, gd, hx, hy, e, h⟩
  have e : (if eqOk dx dy then some (!D.eqv dx dy) else none) = some b := by rw [← e]; unfold cmpop; rfl
  split at e
  · rename_i hc
    cases e
    obtain ⟨h1, h2⟩ := eqOk_of hc
    rw [eqv_toPy dx dy h1 h2] at h
    exact op_neD (by omega) pins s σ H x y v u Q I rx ry ⟨_, _, hx.dp gd.sub h1, hy.dp gd.sub h2, hx.shaped h1, hy.shaped h2, h⟩
  · cases e
theorem op_inT (hu : X.A.units + 65 < cLine) : OpR X (compareOp .In) (fun x y H Q => ∃ d ds, Dp X.K H x d ∧ Dp X.K H y (.tuple ds) ∧ SeqAt.shaped d = true ∧ SeqAt.shaped (.tuple ds) = true ∧ Q (.bl (ds.any fun z => PyData.eqv z d)) H) := by
  intro pins s σ H x y v u Q I rx ry h
  obtain ⟨d, ds, hd, he, sd, se, q⟩ := h
  obtain ⟨as, r1⟩ := Dp.reads I d x v hd rx
  obtain ⟨bs, r2⟩ := Dp.reads I (.tuple ds) y u he ry
  exact SeqAt.in_tuple_reads r2 r1 (SeqAt.canLay_of_shaped se) (SeqAt.canLay_of_shaped sd) (room_in_shaped sd hu) ⟨.bl _, H, I, rfl, q⟩
theorem op_notInT (hu : X.A.units + 65 < cLine) : OpR X (compareOp .NotIn) (fun x y H Q => ∃ d ds, Dp X.K H x d ∧ Dp X.K H y (.tuple ds) ∧ SeqAt.shaped d = true ∧ SeqAt.shaped (.tuple ds) = true ∧ Q (.bl (!ds.any fun z => PyData.eqv z d)) H) := by
  intro pins s σ H x y v u Q I rx ry h
  obtain ⟨d, ds, hd, he, sd, se, q⟩ := h
  obtain ⟨as, r1⟩ := Dp.reads I d x v hd rx
  obtain ⟨bs, r2⟩ := Dp.reads I (.tuple ds) y u he ry
  exact SeqAt.notIn_tuple_reads r2 r1 (SeqAt.canLay_of_shaped se) (SeqAt.canLay_of_shaped sd) (room_in_shaped sd hu) ⟨.bl _, H, I, rfl, q⟩
theorem any_toPyL (a : D) (ha : a.dep ≤ 60) : ∀ xs : List D, (∀ x ∈ xs, x.dep ≤ 60) → (xs.any fun x => D.eqv x a) = (toPyL xs).any fun z => PyData.eqv z (toPy a)
  | [], _ => by simp only [toPyL, List.any_nil]
  | x :: xs, h => by
    simp only [toPyL, List.any_cons]
    rw [eqv_toPy x a (h x (List.mem_cons_self ..)) ha, any_toPyL a ha xs fun y hy => h y (List.mem_cons_of_mem _ hy)]
theorem depL_le (n : Nat) : ∀ xs : List D, (∀ x ∈ xs, x.dep ≤ n) → D.depL xs ≤ n
  | [], _ => by simp only [D.depL]; omega
  | x :: xs, h => by
    simp only [D.depL]
    have h1 := h x (List.mem_cons_self ..)
    have h2 := depL_le n xs fun y hy => h y (List.mem_cons_of_mem _ hy)
    omega
theorem inOk_of {a : D} {xs : List D} (h : (decide (a.dep ≤ 60) && xs.all (fun x => decide (x.dep ≤ 60))) = true) : a.dep ≤ 60 ∧ ∀ x ∈ xs, x.dep ≤ 60 := by
  rw [Bool.and_eq_true, decide_eq_true_eq, List.all_eq_true] at h
  exact ⟨h.1, fun x hx => of_decide_eq_true (h.2 x hx)⟩
/-- the one dict rule of reading: what stands at a key -/
theorem dget_of {K : PySem.W.Frag} {H G : Hp} {dx : D} {ks ws : List D} {x y : V} (s : SubH G H) (hx : Red K H G dx x) (hy : Red K H G (.dic ks ws) y) (hk : (dkey0 dx && ks.all dkey0) = true) :
    ∃ a o, y = .ref a ∧ DGet H a x o ∧ match look dx ks ws with
      | some d => ∃ u, o = some u ∧ Rep K G d u
      | none => o = none := by
  rw [Bool.and_eq_true] at hk
  obtain ⟨a, ey, h⟩ := red_dic s hy
  obtain ⟨ex, okx⟩ := red_key hk.1 hx
  rcases h with ⟨kvs, rd, ek, ok, nd, r⟩ | ⟨kvs, rd, ek, ⟨ne, ok⟩, nd, r⟩
  · subst ek
    exact ⟨a, valV kvs (keyOf dx), ey, .inl ⟨kvs, _, rd, ex, rfl⟩, look_K hk.1 r⟩
  · subst ek
    exact absurd (all_keyD hk.2) ne
theorem isSome_of {K : PySem.W.Frag} {G : Hp} {L : Option D} {o : Option V} (l : match L with
    | some d => ∃ u, o = some u ∧ Rep K G d u
    | none => o = none) : L.isSome = o.isSome := by
  cases L with
  | some d => obtain ⟨u, e, _⟩ := l; subst e; rfl
  | none => have e : o = none := l; subst e; rfl
theorem cmp_in (hu : X.A.units + 65 < cLine) : CmpS X T (compareOp .In) (cmpop .isin) := by
  intro pins s σ H x y v u Q I rx ry ⟨G, dx, dy, b, gd, hx, hy, e, h⟩
  unfold cmpop at e
  split at e <;> first | (cases e; done) | (rename_i q; cases q; done) | skip
  · rename_i c z _
    cases e
    obtain ⟨e1, o1⟩ := red_str hx
    obtain ⟨e2, o2⟩ := red_str hy
    refine op_inS pins s σ H x y v u Q I rx ry ⟨c, txS z, e1, e2, ?_⟩
    rw [txS_toList]
    have : decide (c ∈ z) = z.contains c := by simp
    rw [this]
    exact h
  · split at e
    · rename_i hc
      cases e
      obtain ⟨h1, h2⟩ := inOk_of hc
      rw [any_toPyL _ h1 _ h2] at h
      have h3 := depL_le 60 _ h2
      have sy : ∀ {xs : List D}, D.depL xs ≤ 60 → Red X.K H G (.lst xs) y → SeqAt.shaped (.list (toPyL xs)) = true := fun {xs} hl hy => by
        have z := hy.lay
        simp only [toPy] at z
        unfold SeqAt.shaped
        have := dep_toPyL xs
        rw [z, decide_eq_true (by simp only [PyData.depth]; omega)]
        rfl
      have dy : ∀ {xs : List D}, D.depL xs ≤ 60 → Red X.K H G (.lst xs) y → Dp X.K H y (.list (toPyL xs)) := fun {xs} hl hy => by
        obtain ⟨a, vs, e1, ha, r⟩ := red_lst gd.sub hy
        subst e1
        exact .lst (.of ha) (RepL.dp gd.sub xs r (by omega))
      exact op_inD hu pins s σ H x y v u Q I rx ry ⟨_, _, hx.dp gd.sub h1, dy h3 hy, hx.shaped h1, sy h3 hy, h⟩
    · cases e
  · split at e
    · rename_i hc
      cases e
      obtain ⟨h1, h2⟩ := inOk_of hc
      rw [any_toPyL _ h1 _ h2] at h
      have h3 := depL_le 60 _ h2
      have sy : ∀ {xs : List D}, D.depL xs ≤ 60 → Red X.K H G (.tup xs) y → SeqAt.shaped (.tuple (toPyL xs)) = true := fun {xs} hl hy => by
        have z := hy.lay
        simp only [toPy] at z
        unfold SeqAt.shaped
        have := dep_toPyL xs
        rw [z, decide_eq_true (by simp only [PyData.depth]; omega)]
        rfl
      have dy : ∀ {xs : List D}, D.depL xs ≤ 60 → Red X.K H G (.tup xs) y → Dp X.K H y (.tuple (toPyL xs)) := fun {xs} hl hy => by
        obtain ⟨a, vs, e1, ha, r⟩ := red_tup gd.sub hy
        subst e1
        exact .tup ha (RepL.dp gd.sub xs r (by omega))
      exact op_inT hu pins s σ H x y v u Q I rx ry ⟨_, _, hx.dp gd.sub h1, dy h3 hy, hx.shaped h1, sy h3 hy, h⟩
    · cases e
  · split at e
    · rename_i hc
      cases e
      obtain ⟨a, o, ey, g, l⟩ := dget_of gd.sub hx hy hc
      subst ey
      cases ry
      rw [isSome_of l] at h
      exact d_in (by omega) I g rx fun s3 I3 => ⟨.bl _, H, I3, rfl, h⟩
    · cases e
theorem cmp_notin (hu : X.A.units + 65 < cLine) : CmpS X T (compareOp .NotIn) (cmpop .notin) := by
  intro pins s σ H x y v u Q I rx ry ⟨G, dx, dy, b, gd, hx, hy, e, h⟩
  unfold cmpop at e
  split at e <;> first | (cases e; done) | (rename_i q; cases q; done) | skip
  · rename_i c z _
    cases e
    obtain ⟨e1, o1⟩ := red_str hx
    obtain ⟨e2, o2⟩ := red_str hy
    refine op_notInS pins s σ H x y v u Q I rx ry ⟨c, txS z, e1, e2, ?_⟩
    rw [txS_toList]
    have : decide (c ∈ z) = z.contains c := by simp
    rw [this]
    exact h
  · split at e
    · rename_i hc
      cases e
      obtain ⟨h1, h2⟩ := inOk_of hc
      rw [any_toPyL _ h1 _ h2] at h
      have h3 := depL_le 60 _ h2
      have sy : ∀ {xs : List D}, D.depL xs ≤ 60 → Red X.K H G (.lst xs) y → SeqAt.shaped (.list (toPyL xs)) = true := fun {xs} hl hy => by
        have z := hy.lay
        simp only [toPy] at z
        unfold SeqAt.shaped
        have := dep_toPyL xs
        rw [z, decide_eq_true (by simp only [PyData.depth]; omega)]
        rfl
      have dy : ∀ {xs : List D}, D.depL xs ≤ 60 → Red X.K H G (.lst xs) y → Dp X.K H y (.list (toPyL xs)) := fun {xs} hl hy => by
        obtain ⟨a, vs, e1, ha, r⟩ := red_lst gd.sub hy
        subst e1
        exact .lst (.of ha) (RepL.dp gd.sub xs r (by omega))
      exact op_notInD hu pins s σ H x y v u Q I rx ry ⟨_, _, hx.dp gd.sub h1, dy h3 hy, hx.shaped h1, sy h3 hy, h⟩
    · cases e
  · split at e
    · rename_i hc
      cases e
      obtain ⟨h1, h2⟩ := inOk_of hc
      rw [any_toPyL _ h1 _ h2] at h
      have h3 := depL_le 60 _ h2
      have sy : ∀ {xs : List D}, D.depL xs ≤ 60 → Red X.K H G (.tup xs) y → SeqAt.shaped (.tuple (toPyL xs)) = true := fun {xs} hl hy => by
        have z := hy.lay
        simp only [toPy] at z
        unfold SeqAt.shaped
        have := dep_toPyL xs
        rw [z, decide_eq_true (by simp only [PyData.depth]; omega)]
        rfl
      have dy : ∀ {xs : List D}, D.depL xs ≤ 60 → Red X.K H G (.tup xs) y → Dp X.K H y (.tuple (toPyL xs)) := fun {xs} hl hy => by
        obtain ⟨a, vs, e1, ha, r⟩ := red_tup gd.sub hy
        subst e1
        exact .tup ha (RepL.dp gd.sub xs r (by omega))
      exact op_notInT hu pins s σ H x y v u Q I rx ry ⟨_, _, hx.dp gd.sub h1, dy h3 hy, hx.shaped h1, sy h3 hy, h⟩
    · cases e
  · split at e
    · rename_i hc
      cases e
      obtain ⟨a, o, ey, g, l⟩ := dget_of gd.sub hx hy hc
      subst ey
      cases ry
      rw [isSome_of l] at h
      exact d_notIn (by omega) I g rx fun s3 I3 => ⟨.bl _, H, I3, rfl, h⟩
    · cases e
def pycmp : COp → CmpOp
  | .lt => .Lt
  | .le => .LtE
  | .gt => .Gt
  | .ge => .GtE
  | .eq => .Eq
  | .ne => .NotEq
  | .isin => .In
  | .notin => .NotIn
theorem cmp_ok (hu : X.A.units + 65 < cLine) (o : COp) : CmpS X T (compareOp (pycmp o)) (cmpop o) := by
  cases o
  · exact cmp_lt
  · exact cmp_le
  · exact cmp_gt
  · exact cmp_ge
  · exact cmp_eq hu
  · exact cmp_ne hu
  · exact cmp_in hu
  · exact cmp_notin hu
end
end Kn

end

section
/-! K, subscripts, slices by values. -/
namespace Kn
open PySem PySem.Spec PyProof.Rows L2
section
variable {X : Cx} {T : List (Addr × Str)}
theorem atI_eq {α : Type} (xs : List α) (i : Int) : L2.atI xs i = Kn.atI xs i := rfl
theorem RepL.atI {K : PySem.W.Frag} {G : Hp} {ds : List D} {vs : List V} {i : Int} {d : D} (r : RepL K G ds vs) (e : Kn.atI ds i = some d) : ∃ v, L2.atI vs i = some v ∧ Rep K G d v := by
  unfold Kn.atI at e
  unfold L2.atI
  rw [r.length]
  cases q : Kn.ixN ds.length i with
  | none => rw [q] at e; cases e
  | some j =>
    rw [q] at e
    obtain ⟨v, e1, r1⟩ := r.get (i := j) e
    exact ⟨v, by rw [show L2.ixN ds.length i = some j from q]; exact e1, r1⟩
theorem tail_dict {value slice : Expr} {pins : List (Addr × Obj)} {σ : L2.St} {H : Hp} {s : Shared} {a : Addr} {y w : V} {u : Value} {Q : VK} (hu : X.A.units + 1 < cLine) (I : Inv X pins σ H s) (g : DGet H a y (some w)) (ry : RelV y u)
    (hs : subscripted slice false (.ref a) u = operate [.ref a, u] (getItem (.ref a) u)) (q : Q w H) : wpAny (model X.prog X.w) X.A (subscriptTail value slice (.ref a) u) (EP X pins σ Q) X.xe s := by
  have hT := dict_typeIs I g
  unfold subscriptTail
  refine wpAny_bind ?_
  rw [getitemInPython_of_ne hT.not_modules]
  refine wpAny_bind (wpAny_specialOf hT PySem.F.slot_dict_getitem.lookup ?_)
  have fin : wpAny (model X.prog X.w) X.A (subscripted slice false (.ref a) u) (fun r s₃ => wpAny (model X.prog X.w) X.A (letTemporaryGo value (.ref a) r >>= fun _ => pure r) (EP X pins σ Q) X.xe s₃) X.xe s := by
    rw [hs]
    exact wpAny_operating (d_getItem hu I g ry fun w' s3 I3 rw' => wpAny_bind (wpAny_letTemporaryGo (wpAny_pure ⟨w, H, I3, rw', q⟩)))
  first
    | exact wpAny_pure (wpAny_bind fin)
    | exact wpAny_bind (wpAny_pure (wpAny_bind fin))
    | exact wpAny_bind fin
theorem txS_atI {x : List Nat} {i : Int} {c : Nat} (h : Kn.atI x i = some c) : L2.atI (txS x).cps.toList i = some c := by rw [txS_toList]; exact h
theorem line_str {X : Cx} {n : Nat} (h : n ≤ line) : n ≤ sizeLine := by rw [← line_eq]; exact h
/-- d[i] by values -/
def IxS (X : Cx) (T : List (Addr × Str)) : Prop :=
  IxR X (fun x y H Q => ∃ G dx dy r, Gd X.K T H G ∧ Red X.K H G dx x ∧ Red X.K H G dy y ∧ indexD dx dy = some r ∧ ∀ v, Rep X.K G r.1 v → Q v H)
theorem ix_ok (hu : X.A.units + 65 < cLine) : IxS X T := by
  intro value slice pins s σ H x y v u Q I rx ry ⟨G, dx, dy, r, gd, hx, hy, e, h⟩ hs
  unfold indexD at e
  split at e <;> first | (cases e; done) | (rename_i q; cases q; done) | skip
  · rename_i xs i
    obtain ⟨d, e1, e2⟩ := Option.map_eq_some_iff.mp e
    subst e2
    obtain ⟨a, vs, e3, ha, r1⟩ := red_lst gd.sub hx
    obtain ⟨w, e4, r2⟩ := r1.atI e1
    exact ix_list value slice pins s σ H x y v u Q I rx ry ⟨a, vs, i, w, e3, red_int hy, .of ha, e4, h w r2⟩ hs
  · rename_i xs i
    obtain ⟨d, e1, e2⟩ := Option.map_eq_some_iff.mp e
    subst e2
    obtain ⟨a, vs, e3, ha, r1⟩ := red_tup gd.sub hx
    obtain ⟨w, e4, r2⟩ := r1.atI e1
    exact ix_tup value slice pins s σ H x y v u Q I rx ry ⟨a, vs, i, w, e3, red_int hy, ha, e4, h w r2⟩ hs
  · rename_i x' i
    split at e
    · rename_i hl
      obtain ⟨c, e1, e2⟩ := Option.map_eq_some_iff.mp e
      subst e2
      obtain ⟨e3, ok⟩ := red_str hx
      refine ix_str value slice pins s σ H x y v u Q I rx ry ⟨txS x', i, c, e3, red_int hy, by rw [len_txS]; exact line_str (X := X) hl, txS_atI e1, h _ (rep_str (okT_sub ok fun z hz => ?_))⟩ hs
      rw [List.mem_singleton] at hz
      subst hz
      unfold Kn.atI at e1
      obtain ⟨j, e5, e6⟩ := Option.bind_eq_some_iff.mp e1
      exact List.mem_of_getElem? e6
    · cases e
  · split at e
    · rename_i hc
      obtain ⟨d, e1, e2⟩ := Option.map_eq_some_iff.mp e
      subst e2
      obtain ⟨a, o, ey, g, l⟩ := dget_of gd.sub hy hx hc
      rw [e1] at l
      obtain ⟨w, eo, r1⟩ := l
      subst eo ey
      cases rx
      exact tail_dict (by omega) I g ry hs (h w r1)
    · cases e
/-! ### slices -/
theorem sIx_eq (n d : Nat) (o : Option Int) : HT.sIx n d o = Kn.sIx n d o := by cases o <;> rfl
theorem cutV_eq (xs : List V) (lo hi : Option Int) : cutV xs lo hi = Kn.cut xs lo hi := by unfold cutV Kn.cut; rw [sIx_eq, sIx_eq]
theorem RepL.cut {K : PySem.W.Frag} {G : Hp} {ds : List D} {vs : List V} (lo hi : Option Int) (r : RepL K G ds vs) : RepL K G (Kn.cut ds lo hi) (Kn.cut vs lo hi) := by
  unfold Kn.cut
  rw [r.length]
  exact (r.drop _).take _
theorem cut_all {α : Type} {xs : List α} {lo hi : Option Int} (h : Kn.sIx xs.length 0 lo = 0 ∧ Kn.sIx xs.length xs.length hi = xs.length) : Kn.cut xs lo hi = xs := by
  unfold Kn.cut
  rw [h.1, h.2]
  simp
theorem cut_sub {α : Type} {xs : List α} {lo hi : Option Int} : ∀ c ∈ Kn.cut xs lo hi, c ∈ xs := fun c h => List.mem_of_mem_drop (List.mem_of_mem_take h)
theorem cutS_eq (x : List Nat) (lo hi : Option Int) : cutS (txS x) lo hi = txS (Kn.cut x lo hi) := by
  unfold cutS Kn.cut
  rw [len_txS, txS_toList, sIx_eq, sIx_eq]
def SlS (X : Cx) (T : List (Addr × Str)) : Prop :=
  SlR X (fun x lo hi H Q => ∃ G dx r, Gd X.K T H G ∧ Red X.K H G dx x ∧ sliceD dx lo hi = some r ∧ Then X.K T H G r Q)
theorem sl_ok : SlS X T := by
  intro pins s σ H x v vl vu lo hi sl Q I rx hs pl pu ⟨G, dx, r, gd, hx, e, h⟩
  unfold sliceD at e
  split at e <;> first | (cases e; done) | skip
  · cases e
    obtain ⟨a, vs, e1, ha, r1⟩ := red_lst gd.sub hx
    refine sl_list pins s σ H x v vl vu lo hi sl Q I rx hs pl pu ⟨a, vs, e1, .of ha, fun p np => ?_⟩
    rw [cutV_eq]
    exact h.lst gd np (r1.cut lo hi)
  · cases e
    obtain ⟨a, vs, e1, ha, r1⟩ := red_tup gd.sub hx
    refine sl_tupA pins s σ H x v vl vu lo hi sl Q I rx hs pl pu ⟨a, vs, e1, ha, fun z => ?_, fun z p np => ?_⟩
    · rw [sIx_eq, sIx_eq, r1.length] at z
      rw [cut_all z] at h
      rw [← e1]
      exact h.imm gd (red_tupG hx)
    · rw [cutV_eq]
      exact h.tup gd np (r1.cut lo hi)
  · split at e
    · rename_i hl
      cases e
      obtain ⟨e3, ok⟩ := red_str hx
      refine sl_str pins s σ H x v vl vu lo hi sl Q I rx hs pl pu ⟨_, e3, by rw [len_txS]; exact line_str (X := X) hl, ?_⟩
      rw [cutS_eq]
      exact h.imm gd (rep_str (okT_sub ok cut_sub))
    · cases e
end
end Kn

end

section
/-! K, readings of expressions. -/
namespace Kn
open PySem PySem.Spec PyProof.Rows L2

/-- the fragment, the tables, how an exception's payload lies -/
structure Pm where
  K : PySem.W.Frag
  T : List (Addr × Str)
  XC : Nat → D → Value → Option Addr → Hp → Prop

section
variable {P : Pm} {E : XK} {ρ ρ' ρ1 ρ'' : Env} {σ σ' : L2.St} {H H' H1 H'' G G' G1 G'' : Hp} {α β : Type}
/-- behind an exception -/
structure XSt (P : Pm) (σ : L2.St) (ρ : Env) (H H' : Hp) : Prop where
  frame : ∀ b o, H b = some o → nt o → ¬ Ow ρ σ b → H' b = some o
  mono : ∀ b, Live H b → Live H' b
  tabs : LamX.Tabs P.T H'
theorem XSt.after (a : StE P.K P.T σ ρ H G ρ' H' G') (x : XSt P σ ρ' H' H'') : XSt P σ ρ H H'' :=
  ⟨fun b o h n w => x.frame b o (a.st.frame b o h n w) n fun z => w (a.ow z), fun b h => x.mono b (a.st.mono b h), x.tabs⟩
def EndX (P : Pm) (E : XK) (σ : L2.St) (ρ : Env) (H G : Hp) (Ok : α → Env → Hp → Hp → Prop) : R (α × Env) → Prop
  | .ok a => ∀ H' G', StE P.K P.T σ ρ H G a.2 H' G' → Ok a.1 a.2 H' G'
  | .exc c p => ∀ cls dd H', XSt P σ ρ H H' → P.XC c p cls dd H' → E cls dd H'
  | .bad => False
theorem EndX.imp {Ok Ok' : α → Env → Hp → Hp → Prop} {r : R (α × Env)} (h : EndX P E σ ρ H G Ok r) (k : ∀ a ρ' H' G', StE P.K P.T σ ρ H G ρ' H' G' → Ok a ρ' H' G' → Ok' a ρ' H' G') : EndX P E σ ρ H G Ok' r := by
  cases r with
  | ok a => exact fun H' G' st => k _ _ _ _ st (h H' G' st)
  | exc c p => exact h
  | bad => exact h
theorem EndX.move {Ok : α → Env → Hp → Hp → Prop} {r : R (α × Env)} (st : StE P.K P.T σ ρ H G ρ1 H1 G1) (h : EndX P E σ ρ H G Ok r) : EndX P E σ ρ1 H1 G1 Ok r := by
  cases r with
  | ok a => exact fun H' G' s2 => h H' G' (st.trans s2)
  | exc c p => exact fun cls dd H' x q => h cls dd H' (x.after st) q
  | bad => exact h
theorem EndX.bind {x : R (α × Env)} {k : α × Env → R (β × Env)} {Ok : β → Env → Hp → Hp → Prop} {Ok1 : α → Env → Hp → Hp → Prop} (h : EndX P E σ ρ H G Ok (x.bind k))
    (hk : ∀ a ρ1 H1 G1, StE P.K P.T σ ρ H G ρ1 H1 G1 → EndX P E σ ρ1 H1 G1 Ok (k (a, ρ1)) → Ok1 a ρ1 H1 G1) : EndX P E σ ρ H G Ok1 x := by
  cases x with
  | ok a => exact fun H' G' st => hk _ _ _ _ st (EndX.move st h)
  | exc c p => exact h
  | bad => exact h
theorem EndX.bindE {x : R (α × Env)} {k : α × Env → R (β × Env)} {Ok : β → Env → Hp → Hp → Prop} {Ok1 : α → Env → Hp → Hp → Prop} (h : EndX P E σ ρ H G Ok (x.bind k))
    (hk : ∀ a ρ1 H1 G1, x = .ok (a, ρ1) → StE P.K P.T σ ρ H G ρ1 H1 G1 → EndX P E σ ρ1 H1 G1 Ok (k (a, ρ1)) → Ok1 a ρ1 H1 G1) : EndX P E σ ρ H G Ok1 x := by
  cases x with
  | ok a => exact fun H' G' st => hk _ _ _ _ rfl st (EndX.move st h)
  | exc c p => exact h
  | bad => exact h
/-- .. not moved -/
theorem EndX.bindS {x : R (α × Env)} {k : α × Env → R (β × Env)} {Ok : β → Env → Hp → Hp → Prop} {Ok1 : α → Env → Hp → Hp → Prop} (h : EndX P E σ ρ H G Ok (x.bind k))
    (hk : ∀ a ρ1 H1 G1, x = .ok (a, ρ1) → StE P.K P.T σ ρ H G ρ1 H1 G1 → EndX P E σ ρ H G Ok (k (a, ρ1)) → Ok1 a ρ1 H1 G1) : EndX P E σ ρ H G Ok1 x := by
  cases x with
  | ok a => exact fun H' G' st => hk _ _ _ _ rfl st h
  | exc c p => exact h
  | bad => exact h
theorem EndX.of {o : Option α} {k : α → R (β × Env)} {Ok : β → Env → Hp → Hp → Prop} (h : EndX P E σ ρ H G Ok ((R.of o).bind k)) : ∃ a, o = some a ∧ EndX P E σ ρ H G Ok (k a) := by
  cases o with
  | some a => exact ⟨a, rfl, h⟩
  | none => exact h.elim
theorem EndX.ok {a : α} {Ok : α → Env → Hp → Hp → Prop} (s : Sim P.K P.T ρ σ H G) (h : EndX P E σ ρ H G Ok (.ok (a, ρ))) : Ok a ρ H G := h H G (.refl s)
abbrev OkE (P : Pm) (σ : L2.St) (H : Hp) (Q : VK) : RV → Env → Hp → Hp → Prop := fun x ρ' H' G' => ∀ v, RVok P.K ρ' σ H H' G' v x → Q v H'
abbrev OkB (Q : Bool → Hp → Prop) : Bool → Env → Hp → Hp → Prop := fun b _ H' _ => Q b H'
abbrev OkF (P : Pm) (Q : List V → Hp → Prop) : List D → Env → Hp → Hp → Prop := fun ds _ H' G' => ∀ vs, RepL P.K G' ds vs → Q vs H'
inductive RedL (K : PySem.W.Frag) (H G : Hp) : List D → List V → Prop
  | nil : RedL K H G [] []
  | cons {d : D} {ds : List D} {v : V} {vs : List V} (h : Red K H G d v) (r : RedL K H G ds vs) : RedL K H G (d :: ds) (v :: vs)
abbrev OkR (P : Pm) (σ : L2.St) (Q : List V → Hp → Prop) : List D → Env → Hp → Hp → Prop := fun ds ρ' H' G' => ∀ vs, RedL P.K H' G' ds vs → Q vs H'
/-- an expression's reading -/
def tE (P : Pm) (E : XK) (f : Env → R (RV × Env)) : TE := fun σ H Q => ∃ ρ G, Sim P.K P.T ρ σ H G ∧ EndX P E σ ρ H G (OkE P σ H Q) (f ρ)
def tB (P : Pm) (E : XK) (f : Env → R (Bool × Env)) : TT := fun σ H Q => ∃ ρ G, Sim P.K P.T ρ σ H G ∧ EndX P E σ ρ H G (OkB Q) (f ρ)
def tF (P : Pm) (E : XK) (f : Env → R (List D × Env)) : TA := fun σ H Q => ∃ ρ G, Sim P.K P.T ρ σ H G ∧ EndX P E σ ρ H G (OkF P Q) (f ρ)
def tR (P : Pm) (E : XK) (f : Env → R (List D × Env)) : TA := fun σ H Q => ∃ ρ G, Sim P.K P.T ρ σ H G ∧ EndX P E σ ρ H G (OkR P σ Q) (f ρ)
def tO (P : Pm) (E : XK) (f : Env → R (Option Int × Env)) : TO := fun σ H Q => ∃ ρ G, Sim P.K P.T ρ σ H G ∧ EndX P E σ ρ H G (fun o _ H' _ => Q o H') (f ρ)
theorem EndE.move {Q : VK} {r : R (RV × Env)} (st : StE P.K P.T σ ρ H G ρ1 H1 G1) (h : EndX P E σ ρ1 H1 G1 (OkE P σ H Q) r) : EndX P E σ ρ1 H1 G1 (OkE P σ H1 Q) r :=
  h.imp fun a ρ' H' G' _ q v rv => q v (RVok.mono st rv)
/-- what is read of a value that was held -/
theorem held {v : V} {x : RV} {d : D} (s0 : Sim P.K P.T ρ σ H G) (st : StE P.K P.T σ ρ H G ρ1 H1 G1) (h : RVok P.K ρ1 σ H H1 G1 v x) (st2 : StE P.K P.T σ ρ1 H1 G1 ρ' H' G') (e : rdH ρ' x.hv = some d) : Red P.K H' G' d v :=
  h.hold (fun b z => st.h0 s0 b z) st2 e
theorem readv {v : V} {x : RV} {d : D} (s0 : Sim P.K P.T ρ σ H G) (st : StE P.K P.T σ ρ H G ρ1 H1 G1) (h : RVok P.K ρ1 σ H H1 G1 v x) (e : rd ρ1 x = some d) : Red P.K H1 G1 d v :=
  h.red (T := P.T) (fun b z => st.h0 s0 b z) st.sim e
/-- the way on behind an operation by values -/
theorem then_of {H0 : Hp} {r : D × Bool} {Q : VK} (s : Sim P.K P.T ρ σ H G) (m : ∀ b, Live H0 b → Live H b) (h : EndX P E σ ρ H G (OkE P σ H0 Q) (.ok (if r.2 = true then .tmp r.1 else .imm r.1, ρ))) : Then P.K P.T H G r Q := by
  intro v H' G' c g
  refine h H' G' (c.ste s) v ?_
  unfold Got at g
  split at g
  · rename_i hr
    show RVok P.K ρ σ H0 H' G' v (if r.2 = true then .tmp r.1 else .imm r.1)
    rw [if_pos hr]
    obtain ⟨a, o, e, h1, g1, w, n⟩ := g
    exact ⟨a, o, e, h1, g1, w, fun z => n (m a z)⟩
  · rename_i hr
    show RVok P.K ρ σ H0 H' G' v (if r.2 = true then .tmp r.1 else .imm r.1)
    rw [if_neg hr]
    exact g
end
theorem PE.mono {X : Cx} {e : Expr} {t t' : TE} (h : PE X e t) (m : ∀ σ H Q, t' σ H Q → t σ H Q) : PE X e t' := ⟨fun pins s σ H Q I q => h.run pins s σ H Q I (m σ H Q q)⟩
theorem PT.mono {X : Cx} {e : Expr} {t t' : TT} (h : PT X e t) (m : ∀ σ H Q, t' σ H Q → t σ H Q) : PT X e t' := ⟨fun pins s σ H Q I q => h.run pins s σ H Q I (m σ H Q q)⟩
theorem PW.mono {X : Cx} {e : Expr} {t t' : TT} (h : PW X e t) (m : ∀ σ H Q, t' σ H Q → t σ H Q) : PW X e t' := ⟨fun w pins s σ H Q I q => h.run w pins s σ H Q I (m σ H Q q)⟩
theorem PA.mono {X : Cx} {e : List Expr} {t t' : TA} (h : PA X e t) (m : ∀ σ H Q, t' σ H Q → t σ H Q) : PA X e t' := ⟨fun pos pins s σ H Q I q => h.run pos pins s σ H Q I (m σ H Q q)⟩
theorem PO.mono {X : Cx} {e : Option Expr} {t t' : TO} (h : PO X e t) (m : ∀ σ H Q, t' σ H Q → t σ H Q) : PO X e t' := ⟨fun pins s σ H Q I q => h.run pins s σ H Q I (m σ H Q q)⟩

section
variable {X : Cx} {P : Pm} {E : XK} {GD : Nat → D} {F : Nat → Fn} {pos : Pos} {a b c : Expr} {ca cb cc : CE}
/-! ### names, constants -/
theorem ke_v {i : Nat} {x : Str} (hN : X.N[i]? = some x) (hv : Vis X.env.scope x) (hd : (x == ("__debug__" : Str)) = false := by decide) (hcd : (x == ("__classdict__" : Str)) = false := by decide) :
    PE X (.Name x pos) (tE P E (den GD F (.v i))) := by
  refine PE.mono (pe_var hN hv hd hcd) fun σ H Q ⟨ρ, G, s, h⟩ => ?_
  unfold den at h
  split at h
  · rename_i d q
    obtain ⟨v, e, r⟩ := s.imm i d q
    exact ⟨v, e, h.ok s v r⟩
  · rename_i d q
    obtain ⟨a, o, e, r⟩ := s.own i d q
    exact ⟨_, e, h.ok s _ ⟨e, trivial⟩⟩
  · exact h.elim
theorem ke_int {i : Int} {j : Nat} : PE X (.Constant (.int i) j pos) (tE P E (den GD F (.k (.int i)))) := PE.mono pe_int fun σ H Q ⟨ρ, G, s, h⟩ => by
  unfold den at h
  exact h.ok s _ (rep_int (K := P.K) (G := G))
theorem ke_bl {i : Bool} {j : Nat} : PE X (.Constant (.bool i) j pos) (tE P E (den GD F (.k (.bl i)))) := PE.mono pe_bl fun σ H Q ⟨ρ, G, s, h⟩ => by
  unfold den at h
  exact h.ok s _ (rep_bl (K := P.K) (G := G))
theorem ke_non {j : Nat} : PE X (.Constant .none j pos) (tE P E (den GD F (.k .non))) := PE.mono pe_non fun σ H Q ⟨ρ, G, s, h⟩ => by
  unfold den at h
  exact h.ok s _ (rep_non (K := P.K) (G := G))
theorem ke_str {x : Str} {y : List Nat} {j : Nat} (e : x = txS y) (o : (y.all (· < 0x110000)) = true := by decide) : PE X (.Constant (.str x) j pos) (tE P E (den GD F (.k (.str y)))) := PE.mono pe_str fun σ H Q ⟨ρ, G, s, h⟩ => by
  unfold den at h
  have ok : okT y := okT_iff.mpr fun c hc => of_decide_eq_true (List.all_eq_true.mp o c hc)
  rw [e]
  exact h.ok s _ (rep_str (K := P.K) (G := G) ok)
/-! ### operators -/
theorem ke_bin {o : BOp} (hK : P.K = X.K) (ha : PE X a (tE P E (den GD F ca))) (hb : PE X b (tE P E (den GD F cb))) : PE X (.BinOp a (pyop o) b pos) (tE P E (den GD F (.bin o ca cb))) := by
  refine PE.mono (pe_op (bin_ok (T := P.T) o) ha hb) fun σ H Q ⟨ρ, G, s, h⟩ => ?_
  unfold den at h
  refine ⟨ρ, G, s, h.bind fun x ρ1 H1 G1 st1 h1 v rv => ⟨ρ1, G1, st1.sim, h1.bind fun y ρ2 H2 G2 st2 h2 u ru => ?_⟩⟩
  obtain ⟨dx, e1, h2⟩ := h2.of
  obtain ⟨dy, e2, h2⟩ := h2.of
  obtain ⟨r, e3, h2⟩ := h2.of
  rw [← hK]
  exact ⟨G2, dx, dy, r, st2.sim.gd, held s st1 rv st2 e1, readv st1.sim st2 ru e2, e3, then_of st2.sim (fun b z => st2.st.mono b (st1.st.mono b z)) h2⟩
theorem ke_neg (ha : PE X a (tE P E (den GD F ca))) : PE X (.UnaryOp .USub a pos) (tE P E (den GD F (.neg ca))) := by
  refine PE.mono (pe_un un_neg ha) fun σ H Q ⟨ρ, G, s, h⟩ => ?_
  unfold den at h
  refine ⟨ρ, G, s, h.bind fun x ρ1 H1 G1 st1 h1 v rv => ?_⟩
  dsimp only at h1
  split at h1
  · rename_i i e
    exact ⟨i, red_int (readv s st1 rv e), h1.ok st1.sim _ (rep_int (K := P.K) (G := G1))⟩
  · exact h1.elim
theorem ke_nt (ha : PE X a (tE P E (den GD F ca))) : PE X (.UnaryOp .Not a pos) (tE P E (den GD F (.nt ca))) := by
  refine PE.mono (pe_not ha) fun σ H Q ⟨ρ, G, s, h⟩ => ?_
  unfold den at h
  refine ⟨ρ, G, s, h.bind fun x ρ1 H1 G1 st1 h1 v rv => ?_⟩
  dsimp only at h1
  split at h1
  · rename_i i e
    exact ⟨i, red_bl (readv s st1 rv e), h1.ok st1.sim _ (rep_bl (K := P.K) (G := G1))⟩
  · exact h1.elim
/-- the same for a comparison, as a value and as a test -/
theorem ke_cmp {o : COp} (hK : P.K = X.K) (hu : X.A.units + 65 < cLine) (ha : PE X a (tE P E (den GD F ca))) (hb : PE X b (tE P E (den GD F cb))) (hm : behindInMarks (pycmp o) b = false) :
    PE X (.Compare a [pycmp o] [b] pos) (tE P E (den GD F (.cmp o ca cb))) := by
  refine PE.mono (pe_cmpR (cmp_ok (T := P.T) hu o) ha hb hm) fun σ H Q ⟨ρ, G, s, h⟩ => ?_
  unfold den at h
  refine ⟨ρ, G, s, h.bind fun x ρ1 H1 G1 st1 h1 v rv => ⟨ρ1, G1, st1.sim, h1.bind fun y ρ2 H2 G2 st2 h2 u ru => ?_⟩⟩
  obtain ⟨dx, e1, h2⟩ := h2.of
  obtain ⟨dy, e2, h2⟩ := h2.of
  obtain ⟨r, e3, h2⟩ := h2.of
  rw [← hK]
  exact ⟨G2, dx, dy, r, st2.sim.gd, held s st1 rv st2 e1, readv st1.sim st2 ru e2, e3, h2.ok st2.sim _ (rep_bl (K := P.K) (G := G2))⟩
theorem kb_cmp {o : COp} (hK : P.K = X.K) (hu : X.A.units + 65 < cLine) (ha : PE X a (tE P E (den GD F ca))) (hb : PE X b (tE P E (den GD F cb))) (hm : behindInMarks (pycmp o) b = false) :
    PT X (.Compare a [pycmp o] [b] pos) (tB P E (denB GD F (.cmp o ca cb))) := by
  refine PT.mono (pt_cmpR (cmp_ok (T := P.T) hu o) ha hb hm) fun σ H Q ⟨ρ, G, s, h⟩ => ?_
  unfold denB at h
  refine ⟨ρ, G, s, h.bind fun x ρ1 H1 G1 st1 h1 v rv => ⟨ρ1, G1, st1.sim, h1.bind fun y ρ2 H2 G2 st2 h2 u ru => ?_⟩⟩
  obtain ⟨dx, e1, h2⟩ := h2.of
  obtain ⟨dy, e2, h2⟩ := h2.of
  obtain ⟨r, e3, h2⟩ := h2.of
  rw [← hK]
  exact ⟨G2, dx, dy, r, st2.sim.gd, held s st1 rv st2 e1, readv st1.sim st2 ru e2, e3, r, rfl, h2.ok st2.sim⟩
theorem ke_chn {o p : COp} (hK : P.K = X.K) (hu : X.A.units + 65 < cLine) (ha : PE X a (tE P E (den GD F ca))) (hb : PE X b (tE P E (den GD F cb))) (hc : PE X c (tE P E (den GD F cc))) (hm : lastMarks [pycmp o, pycmp p] [b, c] = false := by with_unfolding_all rfl) :
    PE X (.Compare a [pycmp o, pycmp p] [b, c] pos) (tE P E (den GD F (.chn o p ca cb cc))) := by
  refine PE.mono (pe_chain (cmp_ok (T := P.T) hu o) (cmp_ok (T := P.T) hu p) ha hb hc hm) fun σ H Q ⟨ρ, G, s, h⟩ => ?_
  unfold den at h
  refine ⟨ρ, G, s, h.bind fun x ρ1 H1 G1 st1 h1 v rv => ⟨ρ1, G1, st1.sim, h1.bind fun y ρ2 H2 G2 st2 h2 u ru => ?_⟩⟩
  obtain ⟨dx, e1, h2⟩ := h2.of
  obtain ⟨dy, e2, h2⟩ := h2.of
  obtain ⟨r, e3, h2⟩ := h2.of
  rw [← hK]
  refine ⟨G2, dx, dy, r, st2.sim.gd, held s st1 rv st2 e1, readv st1.sim st2 ru e2, e3, r, rfl, ?_⟩
  split at h2
  · rename_i hr
    rw [if_pos hr]
    refine ⟨ρ2, G2, st2.sim, h2.bind fun z ρ3 H3 G3 st3 h3 w rw' => ?_⟩
    obtain ⟨dy', e4, h3⟩ := h3.of
    obtain ⟨dz, e5, h3⟩ := h3.of
    obtain ⟨r', e6, h3⟩ := h3.of
    exact ⟨G3, dy', dz, r', st3.sim.gd, held st1.sim st2 ru st3 e4, readv st2.sim st3 rw' e5, e6, h3.ok st3.sim _ (rep_bl (K := P.K) (G := G3))⟩
  · rename_i hr
    rw [if_neg hr]
    exact h2.ok st2.sim _ (rep_bl (K := P.K) (G := G2))
theorem kb_chn {o p : COp} (hK : P.K = X.K) (hu : X.A.units + 65 < cLine) (ha : PE X a (tE P E (den GD F ca))) (hb : PE X b (tE P E (den GD F cb))) (hc : PE X c (tE P E (den GD F cc))) (hm : lastMarks [pycmp o, pycmp p] [b, c] = false := by with_unfolding_all rfl) :
    PT X (.Compare a [pycmp o, pycmp p] [b, c] pos) (tB P E (denB GD F (.chn o p ca cb cc))) := by
  refine PT.mono (pt_chain (cmp_ok (T := P.T) hu o) (cmp_ok (T := P.T) hu p) ha hb hc hm) fun σ H Q ⟨ρ, G, s, h⟩ => ?_
  unfold denB at h
  refine ⟨ρ, G, s, h.bind fun x ρ1 H1 G1 st1 h1 v rv => ⟨ρ1, G1, st1.sim, h1.bind fun y ρ2 H2 G2 st2 h2 u ru => ?_⟩⟩
  obtain ⟨dx, e1, h2⟩ := h2.of
  obtain ⟨dy, e2, h2⟩ := h2.of
  obtain ⟨r, e3, h2⟩ := h2.of
  rw [← hK]
  refine ⟨G2, dx, dy, r, st2.sim.gd, held s st1 rv st2 e1, readv st1.sim st2 ru e2, e3, r, rfl, ?_⟩
  split at h2
  · rename_i hr
    rw [if_pos hr]
    refine ⟨ρ2, G2, st2.sim, h2.bind fun z ρ3 H3 G3 st3 h3 w rw' => ?_⟩
    obtain ⟨dy', e4, h3⟩ := h3.of
    obtain ⟨dz, e5, h3⟩ := h3.of
    obtain ⟨r', e6, h3⟩ := h3.of
    exact ⟨G3, dy', dz, r', st3.sim.gd, held st1.sim st2 ru st3 e4, readv st2.sim st3 rw' e5, e6, r', rfl, h3.ok st3.sim⟩
  · rename_i hr
    rw [if_neg hr]
    exact ⟨false, rfl, h2.ok st2.sim⟩
/-! ### and, or -/
variable {rest : List Expr}
theorem ke_one {op : BoolOp} (ha : PE X a (tE P E (den GD F ca))) : PE X (.BoolOp op [a] pos) (tE P E (den GD F ca)) := pe_one ha
theorem ke_and (ha : PE X a (tE P E (den GD F ca))) (hb : PE X (.BoolOp .And (b :: rest) pos) (tE P E (den GD F cb))) : PE X (.BoolOp .And (a :: b :: rest) pos) (tE P E (den GD F (.and ca cb))) := by
  refine PE.mono (pe_and ha hb) fun σ H Q ⟨ρ, G, s, h⟩ => ?_
  unfold den at h
  refine ⟨ρ, G, s, h.bind fun x ρ1 H1 G1 st1 h1 v rv => ?_⟩
  dsimp only at h1
  split at h1
  · rename_i e
    refine ⟨true, red_bl (readv s st1 rv e), ?_⟩
    rw [if_pos rfl]
    exact ⟨ρ1, G1, st1.sim, EndE.move st1 h1⟩
  · rename_i e
    refine ⟨false, red_bl (readv s st1 rv e), ?_⟩
    rw [if_neg Bool.false_ne_true]
    exact h1.ok st1.sim _ (rep_bl (K := P.K) (G := G1))
  · exact h1.elim
theorem ke_or (ha : PE X a (tE P E (den GD F ca))) (hb : PE X (.BoolOp .Or (b :: rest) pos) (tE P E (den GD F cb))) : PE X (.BoolOp .Or (a :: b :: rest) pos) (tE P E (den GD F (.or ca cb))) := by
  refine PE.mono (pe_or ha hb) fun σ H Q ⟨ρ, G, s, h⟩ => ?_
  unfold den at h
  refine ⟨ρ, G, s, h.bind fun x ρ1 H1 G1 st1 h1 v rv => ?_⟩
  dsimp only at h1
  split at h1
  · rename_i e
    refine ⟨true, red_bl (readv s st1 rv e), ?_⟩
    rw [if_pos rfl]
    exact h1.ok st1.sim _ (rep_bl (K := P.K) (G := G1))
  · rename_i e
    refine ⟨false, red_bl (readv s st1 rv e), ?_⟩
    rw [if_neg Bool.false_ne_true]
    exact ⟨ρ1, G1, st1.sim, EndE.move st1 h1⟩
  · exact h1.elim
theorem kb_and1 (ha : PT X a (tB P E (denB GD F ca))) : PW X (.BoolOp .And [a] pos) (tB P E (denB GD F ca)) := pw_and1 ha
theorem kb_or1 (ha : PT X a (tB P E (denB GD F ca))) : PW X (.BoolOp .Or [a] pos) (tB P E (denB GD F ca)) := pw_or1 ha
theorem kb_and (ha : PT X a (tB P E (denB GD F ca))) (hb : PW X (.BoolOp .And (b :: rest) pos) (tB P E (denB GD F cb))) : PW X (.BoolOp .And (a :: b :: rest) pos) (tB P E (denB GD F (.and ca cb))) := by
  refine PW.mono (pw_and ha hb) fun σ H Q ⟨ρ, G, s, h⟩ => ?_
  unfold denB at h
  refine ⟨ρ, G, s, h.bind fun x ρ1 H1 G1 st1 h1 => ?_⟩
  show if x = true then tB P E (denB GD F cb) σ H1 Q else Q false H1
  split at h1
  · rename_i hr
    rw [if_pos hr]
    exact ⟨ρ1, G1, st1.sim, h1⟩
  · rename_i hr
    rw [if_neg hr]
    exact h1.ok st1.sim
theorem kb_or (ha : PT X a (tB P E (denB GD F ca))) (hb : PW X (.BoolOp .Or (b :: rest) pos) (tB P E (denB GD F cb))) : PW X (.BoolOp .Or (a :: b :: rest) pos) (tB P E (denB GD F (.or ca cb))) := by
  refine PW.mono (pw_or ha hb) fun σ H Q ⟨ρ, G, s, h⟩ => ?_
  unfold denB at h
  refine ⟨ρ, G, s, h.bind fun x ρ1 H1 G1 st1 h1 => ?_⟩
  show if x = true then Q true H1 else tB P E (denB GD F cb) σ H1 Q
  split at h1
  · rename_i hr
    rw [if_pos hr]
    exact h1.ok st1.sim
  · rename_i hr
    rw [if_neg hr]
    exact ⟨ρ1, G1, st1.sim, h1⟩
theorem kb_nt (ha : PT X a (tB P E (denB GD F ca))) : PT X (.UnaryOp .Not a pos) (tB P E (denB GD F (.nt ca))) := by
  refine PT.mono (pt_not ha) fun σ H Q ⟨ρ, G, s, h⟩ => ?_
  unfold denB at h
  refine ⟨ρ, G, s, h.bind fun x ρ1 H1 G1 st1 h1 => ?_⟩
  dsimp only at h1
  have z := h1.ok st1.sim
  exact z
theorem ke_ite (hc : PT X c (tB P E (denB GD F cc))) (ha : PE X a (tE P E (den GD F ca))) (hb : PE X b (tE P E (den GD F cb))) : PE X (.IfExp c a b pos) (tE P E (den GD F (.ite cc ca cb))) := by
  refine PE.mono (pe_ifExp hc ha hb) fun σ H Q ⟨ρ, G, s, h⟩ => ?_
  unfold den at h
  refine ⟨ρ, G, s, h.bind fun x ρ1 H1 G1 st1 h1 => ?_⟩
  show if x = true then tE P E (den GD F ca) σ H1 Q else tE P E (den GD F cb) σ H1 Q
  split at h1
  · rename_i hr
    rw [if_pos hr]
    exact ⟨ρ1, G1, st1.sim, EndE.move st1 h1⟩
  · rename_i hr
    rw [if_neg hr]
    exact ⟨ρ1, G1, st1.sim, EndE.move st1 h1⟩
end
end Kn

end

section
/-! K, readings of expressions: displays, subscripts, built-ins. -/
namespace Kn
open PySem PySem.Spec PyProof.Rows L2

/-! ### truth, is, isinstance by values -/
section
variable {X : Cx} {T : List (Addr × Str)}
theorem isEmpty_rep {K : PySem.W.Frag} {G : Hp} {ds : List D} {vs : List V} (r : RepL K G ds vs) : vs.isEmpty = ds.isEmpty := by
  cases ds with
  | nil => simp only [RepL] at r; subst r; rfl
  | cons d ds => obtain ⟨v, r', e, _⟩ := r.uncons; subst e; rfl
theorem ne_nil_len {x : List Nat} : (((txS x).length : Int) != 0) = !x.isEmpty := by
  rw [len_txS]
  cases x with
  | nil => rfl
  | cons a b =>
    rw [List.isEmpty_cons, List.length_cons]
    exact bne_iff_ne.mpr (by omega)
theorem tru_D : TruR X (fun x H Q => ∃ G d b, Gd X.K T H G ∧ Red X.K H G d x ∧ truth d = some b ∧ Q b H) := by
  intro pins s σ H x v Q I rx ⟨G, d, b, gd, hx, e, h⟩
  cases d with
  | non => cases e; exact tru_ok pins s σ H x v Q I rx ⟨false, by rw [red_non hx]; exact rfl, h⟩
  | bl c => cases e; exact tru_ok pins s σ H x v Q I rx ⟨_, by rw [red_bl hx]; exact rfl, h⟩
  | int i => cases e; exact tru_ok pins s σ H x v Q I rx ⟨_, by rw [red_int hx]; exact rfl, h⟩
  | str y =>
    simp only [truth] at e
    split at e
    · rename_i hl
      cases e
      exact tru_ok pins s σ H x v Q I rx ⟨_, by rw [(red_str hx).1]; exact ⟨by rw [len_txS]; exact line_str (X := X) hl, ne_nil_len.symm⟩, h⟩
    · cases e
  | lst xs =>
    cases e
    obtain ⟨a, vs, e1, ha, r⟩ := red_lst gd.sub hx
    exact tru_ok pins s σ H x v Q I rx ⟨_, by rw [e1]; exact .inl ⟨vs, .of ha, by rw [isEmpty_rep r]⟩, h⟩
  | tup xs =>
    cases e
    obtain ⟨a, vs, e1, ha, r⟩ := red_tup gd.sub hx
    exact tru_ok pins s σ H x v Q I rx ⟨_, by rw [e1]; exact .inr (.inl ⟨vs, ha, by rw [isEmpty_rep r]⟩), h⟩
  | dic ks ws =>
    simp only [truth] at e
    split at e
    · rename_i hk
      cases e
      obtain ⟨a, e1, hh⟩ := red_dic gd.sub hx
      rcases hh with ⟨kvs, rd, ek, _⟩ | ⟨kvs, rd, ek, ⟨ne, _⟩, _⟩
      · subst e1
        cases rx
        refine d_truth I rd fun s' I' => ⟨H, I', ?_⟩
        have : ks.isEmpty = kvs.isEmpty := by rw [ek]; cases kvs <;> rfl
        rw [← this]
        exact h
      · rw [ek] at hk
        exact absurd (all_keyD hk) ne
    · cases e
  | scr ns => cases e
theorem red_isN {d : D} {v : V} {K : PySem.W.Frag} {H G : Hp} (h : Red K H G d v) : isLit .non d = some (decide (v = .non)) := by
  rcases h with h | ⟨a, o, e, ha, w⟩
  · cases d with
    | non => simp only [Rep] at h; subst h; rfl
    | bl b => simp only [Rep] at h; subst h; rfl
    | int b => simp only [Rep] at h; subst h; rfl
    | str b => simp only [Rep] at h; rw [h.1]; rfl
    | lst b => simp only [Rep] at h; obtain ⟨a, _, e, _⟩ := h; subst e; rfl
    | tup b => simp only [Rep] at h; obtain ⟨a, _, e, _⟩ := h; subst e; rfl
    | dic b c => simp only [Rep] at h; obtain ⟨a, e, _⟩ := h; subst e; rfl
    | scr b => simp only [Rep] at h; obtain ⟨a, e, _⟩ := h; subst e; rfl
  · subst e
    cases d with
    | lst => rfl
    | dic => rfl
    | _ => exact w.elim
def litV : Lit → V
  | .non => .non
  | .bl b => .bl b
  | .int i => .int i
  | .str x => .str (txS x)
theorem plain_bl {x : V} {v : Value} (r : RelV x v) (c : Bool) : plainIs v (.bool c) = true := by
  cases x with
  | non => cases (show v = Value.none from r); rfl
  | bl b => cases (show v = Value.bool b from r); rfl
  | int i => obtain ⟨t, e⟩ := (show ∃ t, v = Value.int i t from r); subst e; rfl
  | str i => obtain ⟨t, e⟩ := (show ∃ t, v = Value.str i t from r); subst e; rfl
  | byt i => obtain ⟨t, e⟩ := (show ∃ t, v = Value.bytes i t from r); subst e; rfl
  | flt i => obtain ⟨t, e⟩ := (show ∃ t, v = Value.float i t from r); subst e; rfl
  | ref a => cases (show v = Value.ref a from r); rfl
  | ty n => cases (show v = Value.type n from r); rfl
theorem red_isBl {d : D} {v : V} {c : Bool} {u : Value} {K : PySem.W.Frag} {H G : Hp} (h : Red K H G d v) (r : RelV v u) : isLit (.bl c) d = some (decide (u = .bool c)) := by
  have key : ∀ {b : Bool}, (b = true ↔ u = .bool c) → some b = some (decide (u = .bool c)) := fun {b} e => by
    congr 1
    cases b with
    | true => exact (decide_eq_true (e.mp rfl)).symm
    | false => exact (decide_eq_false fun z => Bool.false_ne_true (e.mpr z)).symm
  have no : u ≠ .bool c → some false = some (decide (u = .bool c)) := fun n => key ⟨fun z => (Bool.false_ne_true z).elim, fun z => (n z).elim⟩
  cases d with
  | bl b =>
    rw [red_bl h] at r
    cases (show u = Value.bool b from r)
    refine key ⟨fun z => ?_, fun z => ?_⟩
    · have : c = b := by simpa using z
      rw [this]
    · rw [Value.bool.inj z]
      simp
  | non => rw [red_non h] at r; cases (show u = Value.none from r); exact no fun z => nomatch z
  | int i => rw [red_int h] at r; obtain ⟨t, e⟩ := (show ∃ t, u = Value.int i t from r); exact no fun z => by rw [e] at z; cases z
  | str i => rw [(red_str h).1] at r; obtain ⟨t, e⟩ := (show ∃ t, u = Value.str _ t from r); exact no fun z => by rw [e] at z; cases z
  | lst xs =>
    have : ∃ a, v = .ref a := by
      rcases h with h | ⟨a, o, e, _⟩
      · simp only [Rep] at h; obtain ⟨a, _, e, _⟩ := h; exact ⟨a, e⟩
      · exact ⟨a, e⟩
    obtain ⟨a, e⟩ := this
    rw [e] at r
    cases (show u = Value.ref a from r)
    exact no fun z => nomatch z
  | dic xs ys =>
    have : ∃ a, v = .ref a := by
      rcases h with h | ⟨a, o, e, _⟩
      · simp only [Rep] at h; obtain ⟨a, e, _⟩ := h; exact ⟨a, e⟩
      · exact ⟨a, e⟩
    obtain ⟨a, e⟩ := this
    rw [e] at r
    cases (show u = Value.ref a from r)
    exact no fun z => nomatch z
  | tup xs =>
    have : ∃ a, v = .ref a := by
      rcases h with h | ⟨a, o, e, _⟩
      · simp only [Rep] at h; obtain ⟨a, _, e, _⟩ := h; exact ⟨a, e⟩
      · exact ⟨a, e⟩
    obtain ⟨a, e⟩ := this
    rw [e] at r
    cases (show u = Value.ref a from r)
    exact no fun z => nomatch z
  | scr xs =>
    have : ∃ a, v = .ref a := by
      rcases h with h | ⟨a, o, e, _⟩
      · simp only [Rep] at h; obtain ⟨a, e, _⟩ := h; exact ⟨a, e⟩
      · exact ⟨a, e⟩
    obtain ⟨a, e⟩ := this
    rw [e] at r
    cases (show u = Value.ref a from r)
    exact no fun z => nomatch z
theorem is_D (l : Lit) : OpR X (compareOp .Is) (fun x y H Q => ∃ G d b, Gd X.K T H G ∧ Red X.K H G d x ∧ y = litV l ∧ isLit l d = some b ∧ Q (.bl b) H) := by
  intro pins s σ H x y v u Q I rx ry ⟨G, d, b, gd, hx, ey, e, h⟩
  cases l with
  | non =>
    rw [red_isN hx] at e
    cases e
    exact op_isN pins s σ H x y v u Q I rx ry ⟨ey, h⟩
  | bl c =>
    rw [red_isBl hx rx] at e
    cases e
    rw [ey] at ry
    cases (show u = Value.bool c from ry)
    by_cases hv : v = .bool c
    · subst hv
      rw [decide_eq_true rfl] at h
      exact wpAny_is_self (plain_bl rx _) ⟨.bl true, H, I, rfl, h⟩
    · rw [decide_eq_false hv] at h
      exact wpAny_is_other (plain_bl rx _) hv ⟨.bl false, H, I, rfl, h⟩
  | _ => cases e
theorem not_D (l : Lit) : OpR X (compareOp .IsNot) (fun x y H Q => ∃ G d b, Gd X.K T H G ∧ Red X.K H G d x ∧ y = litV l ∧ isLit l d = some b ∧ Q (.bl (!b)) H) := by
  intro pins s σ H x y v u Q I rx ry ⟨G, d, b, gd, hx, ey, e, h⟩
  cases l with
  | non =>
    rw [red_isN hx] at e
    cases e
    exact op_notN pins s σ H x y v u Q I rx ry ⟨ey, h⟩
  | bl c =>
    rw [red_isBl hx rx] at e
    cases e
    rw [ey] at ry
    cases (show u = Value.bool c from ry)
    by_cases hv : v = .bool c
    · subst hv
      rw [decide_eq_true rfl] at h
      exact wpAny_isNot_self (plain_bl rx _) ⟨.bl false, H, I, rfl, h⟩
    · rw [decide_eq_false hv] at h
      exact wpAny_isNot_other (plain_bl rx _) hv ⟨.bl true, H, I, rfl, h⟩
  | _ => cases e
def tyN : D → String
  | .non => "NoneType"
  | .bl _ => "bool"
  | .int _ => "int"
  | .str _ => "str"
  | .lst _ => "list"
  | .tup _ => "tuple"
  | .dic _ _ => "dict"
  | .scr _ => "list"
def tyS : Ty → String
  | .int => "int"
  | .bool => "bool"
  | .str => "str"
  | .list => "list"
  | .tuple => "tuple"
  | .dict => "dict"
theorem kit_D (K : PySem.W.Frag) (d : D) (t : Ty) : PySem.W.kitOne K (.type (tyN d)) (.type (tyS t)) = some (isTy t d) := by
  cases d <;> cases t <;> rfl
theorem kit_Ds (K : PySem.W.Frag) (d : D) : ∀ ts : List Ty, PySem.W.kitAny K (.type (tyN d)) (ts.map fun t => .type (tyS t)) = some (ts.any fun t => isTy t d)
  | [] => rfl
  | t :: ts => by
    rw [List.map_cons, List.any_cons]
    unfold PySem.W.kitAny
    rw [kit_D]
    cases isTy t d with
    | true => rfl
    | false => exact kit_Ds K d ts
theorem red_ty {d : D} {v : V} {K : PySem.W.Frag} {H G : Hp} (s : SubH G H) (h : Red K H G d v) (o : isiOk d = true) : TyX K H v (.type (tyN d)) := by
  cases d with
  | non => rw [red_non h]; exact .base .non
  | bl b => rw [red_bl h]; exact .base (.bl _)
  | int i => rw [red_int h]; exact .base (.int _)
  | str x => rw [(red_str h).1]; exact .base (.str _)
  | lst xs =>
    obtain ⟨a, vs, e, ha, _⟩ := red_lst s h
    subst e
    exact .base (.lst ha)
  | tup xs =>
    obtain ⟨a, vs, e, ha, _⟩ := red_tup s h
    subst e
    rcases ha with (ha | ⟨o, ha⟩) | ⟨o, its, n, ha, hc, _⟩
    · exact .base (.tup ha)
    · exact .fTuple ha
    · exact .kTuple ha hc
  | dic ks ws =>
    obtain ⟨a, e, hh⟩ := red_dic s h
    subst e
    rcases hh with ⟨kvs, rd, ek, _⟩ | ⟨kvs, rd, ek, ⟨ne, _⟩, _⟩
    · rcases rd with rd | ⟨ob, rd⟩
      · exact .base (.dK rd)
      · exact .fDict rd
    · have o : ks.all dkey0 = true := o
      rw [ek] at o
      exact absurd (all_keyD o) ne
  | scr ns =>
    rcases h with h | ⟨_, _, _, _, w⟩
    · simp only [Rep] at h
      obtain ⟨a, e, ha⟩ := h
      subst e
      rcases s.sqL ha with (ha | ⟨o, ha⟩) | ⟨o, its, n, ha, hc, _⟩
      · exact .base (.lst ha)
      · exact .base (.frz ha)
      · exact .kList ha hc
    · exact w.elim
end

section
variable {X : Cx} {P : Pm} {E : XK} {GD : Nat → D} {F : Nat → Fn} {pos : Pos} {a b c e : Expr} {ca cb cc ce : CE} {es : List Expr} {cs : CL}
theorem kb_tr (hK : P.K = X.K) (ha : PE X a (tE P E (den GD F ca))) (he : ∀ whole, isTrue a X.env whole = (do let v ← whole; standAt a.pos; holding [v] (truthy v))) : PT X a (tB P E (denB GD F (.tr ca))) := by
  refine PT.mono (pt_truthR ha (tru_D (T := P.T)) he) fun σ H Q ⟨ρ, G, s, h⟩ => ?_
  unfold denB at h
  refine ⟨ρ, G, s, h.bind fun x ρ1 H1 G1 st1 h1 v rv => ?_⟩
  obtain ⟨d, e1, h1⟩ := h1.of
  obtain ⟨b, e2, h1⟩ := h1.of
  rw [← hK]
  exact ⟨G1, d, b, st1.sim.gd, readv s st1 rv e1, e2, h1.ok st1.sim⟩
theorem ke_isl {l : Lit} (hK : P.K = X.K) (ha : PE X a (tE P E (den GD F ca))) (hb : PE X b (tC (litV l))) : PE X (.Compare a [.Is] [b] pos) (tE P E (den GD F (.isl false l ca))) := by
  refine PE.mono (pe_cmpR (is_D (T := P.T) l) ha hb (nomark b)) fun σ H Q ⟨ρ, G, s, h⟩ => ?_
  unfold den at h
  refine ⟨ρ, G, s, h.bind fun x ρ1 H1 G1 st1 h1 v rv => ?_⟩
  obtain ⟨d, e1, h1⟩ := h1.of
  obtain ⟨b, e2, h1⟩ := h1.of
  rw [← hK]
  rw [Bool.bne_false] at h1
  exact ⟨G1, d, b, st1.sim.gd, readv s st1 rv e1, rfl, e2, h1.ok st1.sim _ (rep_bl (K := P.K) (G := G1))⟩
theorem ke_nisl {l : Lit} (hK : P.K = X.K) (ha : PE X a (tE P E (den GD F ca))) (hb : PE X b (tC (litV l))) : PE X (.Compare a [.IsNot] [b] pos) (tE P E (den GD F (.isl true l ca))) := by
  refine PE.mono (pe_cmpR (not_D (T := P.T) l) ha hb (nomark b)) fun σ H Q ⟨ρ, G, s, h⟩ => ?_
  unfold den at h
  refine ⟨ρ, G, s, h.bind fun x ρ1 H1 G1 st1 h1 v rv => ?_⟩
  obtain ⟨d, e1, h1⟩ := h1.of
  obtain ⟨b, e2, h1⟩ := h1.of
  rw [← hK]
  rw [Bool.bne_true] at h1
  exact ⟨G1, d, b, st1.sim.gd, readv s st1 rv e1, rfl, e2, h1.ok st1.sim _ (rep_bl (K := P.K) (G := G1))⟩
theorem kb_isl {l : Lit} (hK : P.K = X.K) (ha : PE X a (tE P E (den GD F ca))) (hb : PE X b (tC (litV l))) : PT X (.Compare a [.Is] [b] pos) (tB P E (denB GD F (.isl false l ca))) := by
  refine PT.mono (pt_cmpR (is_D (T := P.T) l) ha hb (nomark b)) fun σ H Q ⟨ρ, G, s, h⟩ => ?_
  unfold denB at h
  refine ⟨ρ, G, s, h.bind fun x ρ1 H1 G1 st1 h1 v rv => ?_⟩
  obtain ⟨d, e1, h1⟩ := h1.of
  obtain ⟨b, e2, h1⟩ := h1.of
  rw [← hK]
  rw [Bool.bne_false] at h1
  exact ⟨G1, d, b, st1.sim.gd, readv s st1 rv e1, rfl, e2, b, rfl, h1.ok st1.sim⟩
theorem kb_nisl {l : Lit} (hK : P.K = X.K) (ha : PE X a (tE P E (den GD F ca))) (hb : PE X b (tC (litV l))) : PT X (.Compare a [.IsNot] [b] pos) (tB P E (denB GD F (.isl true l ca))) := by
  refine PT.mono (pt_cmpR (not_D (T := P.T) l) ha hb (nomark b)) fun σ H Q ⟨ρ, G, s, h⟩ => ?_
  unfold denB at h
  refine ⟨ρ, G, s, h.bind fun x ρ1 H1 G1 st1 h1 v rv => ?_⟩
  obtain ⟨d, e1, h1⟩ := h1.of
  obtain ⟨b, e2, h1⟩ := h1.of
  rw [← hK]
  rw [Bool.bne_true] at h1
  exact ⟨G1, d, b, st1.sim.gd, readv s st1 rv e1, rfl, e2, !b, rfl, h1.ok st1.sim⟩
/-! ### argument lists -/
theorem ka_F0 : PA X [] (tF P E (denF GD F .nil)) := PA.mono pa_nil fun σ H Q ⟨ρ, G, s, h⟩ => by
  unfold denF at h
  exact h.ok s [] RepL.nil
theorem ka_F (ha : PE X e (tE P E (den GD F ce))) (hr : PA X es (tF P E (denF GD F cs))) (hs : starEach (e :: es) X.env = (false, eval e X.env) :: starEach es X.env := by rfl) : PA X (e :: es) (tF P E (denF GD F (.cons ce cs))) := by
  refine PA.mono (pa_cons ha hr hs) fun σ H Q ⟨ρ, G, s, h⟩ => ?_
  unfold denF at h
  refine ⟨ρ, G, s, h.bindS fun x ρ1 H1 G1 _ st1 h1 v rv => ?_⟩
  obtain ⟨z, e1, h1⟩ := h1.of
  obtain ⟨G2, st2, r2, _⟩ := fz_ok s st1 rv e1
  refine ⟨z.2, G2, st2.sim, (h1.move st2).bind fun ds ρ3 H3 G3 st3 h3 vs rs => ?_⟩
  exact h3.ok st3.sim _ (RepL.cons (Rep.sub st3.st.sub _ r2) rs)
theorem ka_R0 : PA X [] (tR P E (denR GD F .nil)) := PA.mono pa_nil fun σ H Q ⟨ρ, G, s, h⟩ => by
  unfold denR at h
  exact h.ok s [] RedL.nil
theorem ka_R (ha : PE X e (tE P E (den GD F ce))) (hr : PA X es (tR P E (denR GD F cs))) (hs : starEach (e :: es) X.env = (false, eval e X.env) :: starEach es X.env := by rfl) : PA X (e :: es) (tR P E (denR GD F (.cons ce cs))) := by
  refine PA.mono (pa_cons ha hr hs) fun σ H Q ⟨ρ, G, s, h⟩ => ?_
  unfold denR at h
  refine ⟨ρ, G, s, h.bind fun x ρ1 H1 G1 st1 h1 v rv => ?_⟩
  refine ⟨ρ1, G1, st1.sim, h1.bind fun ds ρ2 H2 G2 st2 h2 vs rs => ?_⟩
  obtain ⟨d, e1, h2⟩ := h2.of
  exact h2.ok st2.sim _ (RedL.cons (held s st1 rv st2 e1) rs)
/-! ### displays -/
def CL.len : CL → Nat
  | .nil => 0
  | .cons _ es => es.len + 1
theorem denF_len : ∀ {cs : CL} {ρ : Env} {ds : List D} {ρ' : Env}, denF GD F cs ρ = .ok (ds, ρ') → ds.length = cs.len
  | .nil, _, _, _, h => by
    unfold denF at h
    cases h
    rfl
  | .cons e cs, ρ, ds, ρ', h => by
    unfold denF at h
    cases h1 : den GD F e ρ with
    | ok x =>
      rw [h1] at h
      have h : (R.of (fz x.2 x.1)).bind (fun z => (denF GD F cs z.2).bind fun r => .ok (z.1 :: r.1, r.2)) = .ok (ds, ρ') := h
      cases h2 : fz x.2 x.1 with
      | none => rw [h2] at h; cases h
      | some z =>
        rw [h2] at h
        have h : (denF GD F cs z.2).bind (fun r => .ok (z.1 :: r.1, r.2)) = .ok (ds, ρ') := h
        cases h3 : denF GD F cs z.2 with
        | ok r =>
          rw [h3] at h
          cases h
          rw [List.length_cons, denF_len h3]
          rfl
        | exc => rw [h3] at h; cases h
        | bad => rw [h3] at h; cases h
    | exc => rw [h1] at h; cases h
    | bad => rw [h1] at h; cases h
theorem ke_lst (h : PA X es (tF P E (denF GD F cs))) (hl : cs.len ≤ 1000 := by decide) : PE X (.List es pos) (tE P E (den GD F (.lst cs))) := by
  refine PE.mono (pe_lst h) fun σ H Q ⟨ρ, G, s, h⟩ => ?_
  unfold den at h
  refine ⟨ρ, G, s, h.bindE fun ds ρ1 H1 G1 ex st1 h1 vs rs => ⟨?_, fun p np => ?_⟩⟩
  · rw [rs.length, denF_len ex, sizeLine_eq]
    omega
  · have c : Cst P.K P.T H1 G1 (upd H1 p (.lst vs)) G1 := .new st1.sim.gd np
    refine h1 _ _ (c.ste st1.sim) _ ⟨p, _, rfl, upd_same, gnone st1.sim.sub np, ⟨vs, rfl, rs⟩, fun z => not_live np (st1.st.mono p z)⟩
theorem ke_tup {k : Nat} (h : PA X es (tF P E (denF GD F cs))) (hl : cs.len ≤ 1000 := by decide) : PE X (.Tuple es k pos) (tE P E (den GD F (.tup cs))) := by
  refine PE.mono (pe_tup h) fun σ H Q ⟨ρ, G, s, h⟩ => ?_
  unfold den at h
  refine ⟨ρ, G, s, h.bindE fun ds ρ1 H1 G1 ex st1 h1 vs rs => ⟨?_, fun p np => ?_⟩⟩
  · rw [rs.length, denF_len ex, sizeLine_eq]
    omega
  · have c : Cst P.K P.T H1 G1 (upd H1 p (.tup vs)) (upd G1 p (.tup vs)) := .newG st1.sim.gd np fun ps e => by cases e
    exact h1 _ _ (c.ste st1.sim) _ (rep_tup (.inl (.inl upd_same)) (RepL.sub (Sub.upd (gnone st1.sim.sub np)) _ rs))
/-! ### subscripts, slices -/
theorem ke_ix (hK : P.K = X.K) (hu : X.A.units + 65 < cLine) (ha : PE X a (tE P E (den GD F ca))) (hb : PE X b (tE P E (den GD F cb))) (hs : PlainIx b) : PE X (.Subscript a b pos) (tE P E (den GD F (.ix ca cb))) := by
  refine PE.mono (pe_ix (ix_ok (T := P.T) hu) ha hb hs) fun σ H Q ⟨ρ, G, s, h⟩ => ?_
  unfold den at h
  refine ⟨ρ, G, s, h.bind fun x ρ1 H1 G1 st1 h1 v rv => ⟨ρ1, G1, st1.sim, h1.bind fun y ρ2 H2 G2 st2 h2 u ru => ?_⟩⟩
  obtain ⟨dx, e1, h2⟩ := h2.of
  obtain ⟨dy, e2, h2⟩ := h2.of
  obtain ⟨r, e3, h2⟩ := h2.of
  rw [← hK]
  exact ⟨G2, dx, dy, r, st2.sim.gd, held s st1 rv st2 e1, readv st1.sim st2 ru e2, e3, fun w hw => h2.ok st2.sim w hw⟩
theorem ko_no : PO X none (tO P E (denO GD F .no)) := PO.mono po_none fun σ H Q ⟨ρ, G, s, h⟩ => by
  unfold denO at h
  exact h.ok s
theorem ko_so (ha : PE X a (tE P E (den GD F ca))) : PO X (some a) (tO P E (denO GD F (.so ca))) := by
  refine PO.mono (po_some ha) fun σ H Q ⟨ρ, G, s, h⟩ => ?_
  unfold denO at h
  refine ⟨ρ, G, s, h.bind fun x ρ1 H1 G1 st1 h1 v rv => ?_⟩
  dsimp only at h1
  split at h1
  · rename_i i e
    exact ⟨i, red_int (readv s st1 rv e), h1.ok st1.sim⟩
  · exact h1.elim
theorem ke_sl {lo hi : Option Expr} {cl ch : CO} {p2 : Pos} (hK : P.K = X.K) (ha : PE X a (tE P E (den GD F ca))) (hl : PO X lo (tO P E (denO GD F cl))) (hh : PO X hi (tO P E (denO GD F ch))) :
    PE X (.Subscript a (.Slice lo hi none p2) pos) (tE P E (den GD F (.sl ca cl ch))) := by
  refine PE.mono (pe_slice (sl_ok (T := P.T)) ha hl hh) fun σ H Q ⟨ρ, G, s, h⟩ => ?_
  unfold den at h
  refine ⟨ρ, G, s, h.bind fun x ρ1 H1 G1 st1 h1 v rv => ⟨ρ1, G1, st1.sim, h1.bind fun l ρ2 H2 G2 st2 h2 => ⟨ρ2, G2, st2.sim, h2.bind fun u ρ3 H3 G3 st3 h3 => ?_⟩⟩⟩
  obtain ⟨dx, e1, h3⟩ := h3.of
  obtain ⟨r, e2, h3⟩ := h3.of
  rw [← hK]
  exact ⟨G3, dx, r, st3.sim.gd, held s st1 rv (st2.trans st3) e1, e2, then_of st3.sim (fun b z => st3.st.mono b (st2.st.mono b (st1.st.mono b z))) h3⟩
/-! ### built-ins -/
def BiS (X : Cx) (T : List (Addr × Str)) (f : Value) (b : BI) : Prop :=
  CallR X f (fun vs H Q => ∃ G ds r, Gd X.K T H G ∧ RedL X.K H G ds vs ∧ biop b ds = some r ∧ Then X.K T H G r Q)
theorem ke_bi {f : BI} {id : String} {x : Str} {p : Pos} (hK : P.K = X.K) (hf : BiS X P.T (.builtin id) f) (hg : Gl X x) (hm : X.mg x = none) (hv : bootBuiltins x = some (.builtin id)) (ha : PA X (e :: es) (tR P E (denR GD F cs)))
    (hn : x ≠ "__name__" := by decide) (hdb : (x == ("__debug__" : Str)) = false := by decide) (he : starEach (e :: es) X.env = (false, eval e X.env) :: starEach es X.env := by rfl) (hpl : (backTo pos (starEach es X.env)).any (·.1) = false := by rfl) :
    PE X (.Call (.Name x p) (e :: es) [] pos) (tE P E (den GD F (.bi f cs))) := by
  refine PE.mono (pe_callB hf hg hm hv ha hn hdb he hpl) fun σ H Q ⟨ρ, G, s, h⟩ => ?_
  unfold den at h
  refine ⟨ρ, G, s, h.bind fun ds ρ1 H1 G1 st1 h1 vs rs => ?_⟩
  obtain ⟨r, e1, h1⟩ := h1.of
  rw [← hK]
  exact ⟨G1, ds, r, st1.sim.gd, rs, e1, then_of st1.sim st1.st.mono h1⟩
theorem ke_ty {f : BI} {ty : String} {x : Str} {p : Pos} (hK : P.K = X.K) (hf : BiS X P.T (.type ty) f) (hg : Gl X x) (hm : X.mg x = none) (hv : bootBuiltins x = some (.type ty)) (ha : PA X (e :: es) (tR P E (denR GD F cs)))
    (hn : x ≠ "__name__" := by decide) (hdb : (x == ("__debug__" : Str)) = false := by decide) (he : starEach (e :: es) X.env = (false, eval e X.env) :: starEach es X.env := by rfl) (hpl : (backTo pos (starEach es X.env)).any (·.1) = false := by rfl) :
    PE X (.Call (.Name x p) (e :: es) [] pos) (tE P E (den GD F (.bi f cs))) := by
  refine PE.mono (pe_callTy hf hg hm hv ha hn hdb he hpl) fun σ H Q ⟨ρ, G, s, h⟩ => ?_
  unfold den at h
  refine ⟨ρ, G, s, h.bind fun ds ρ1 H1 G1 st1 h1 vs rs => ?_⟩
  obtain ⟨r, e1, h1⟩ := h1.of
  rw [← hK]
  exact ⟨G1, ds, r, st1.sim.gd, rs, e1, then_of st1.sim st1.st.mono h1⟩
/-- isinstance(x, T) -/
theorem ke_isi1 {t : Ty} {x : Str} {p : Pos} (hK : P.K = X.K) (hg : Gl X x) (hm : X.mg x = none) (hv : bootBuiltins x = some (.builtin "isinstance")) (ha : PE X a (tE P E (den GD F ca))) (hb : PE X b (tC (.ty (tyS t))))
    (hn : x ≠ "__name__" := by decide) (hdb : (x == ("__debug__" : Str)) = false := by decide) (h1 : starEach [a, b] X.env = (false, eval a X.env) :: starEach [b] X.env := by rfl) (h2 : starEach [b] X.env = (false, eval b X.env) :: starEach [] X.env := by rfl) (hpl : (backTo pos (starEach [b] X.env)).any (·.1) = false := by rfl) :
    PE X (.Call (.Name x p) [a, b] [] pos) (tE P E (den GD F (.isi [t] ca))) := by
  refine PE.mono (pe_callB call_isi hg hm hv (pa_cons ha (pa_cons hb pa_nil h2) h1) hn hdb h1 hpl) fun σ H Q ⟨ρ, G, s, h⟩ => ?_
  unfold den at h
  refine ⟨ρ, G, s, h.bind fun x ρ1 H1 G1 st1 h1 v rv => ?_⟩
  obtain ⟨d, e1, h1⟩ := h1.of
  split at h1
  · rename_i o
    rw [← hK]
    refine ⟨v, .ty (tyS t), _, _, _, rfl, .ty _, red_ty st1.sim.sub (readv s st1 rv e1) o, kit_D _ d t, ?_⟩
    have z := h1.ok st1.sim _ (rep_bl (K := P.K) (G := G1))
    rw [List.any_cons, List.any_nil, Bool.or_false] at z
    exact z
  · exact h1.elim
/-- isinstance(x, (T, U)) -/
theorem ke_isi2 {t u : Ty} {x : Str} {p p2 : Pos} {k : Nat} {b1 b2 : Expr} (hK : P.K = X.K) (hg : Gl X x) (hm : X.mg x = none) (hv : bootBuiltins x = some (.builtin "isinstance")) (ha : PE X a (tE P E (den GD F ca))) (hb1 : PE X b1 (tC (.ty (tyS t)))) (hb2 : PE X b2 (tC (.ty (tyS u))))
    (hn : x ≠ "__name__" := by decide) (hdb : (x == ("__debug__" : Str)) = false := by decide) (h1 : starEach [a, .Tuple [b1, b2] k p2] X.env = (false, eval a X.env) :: starEach [.Tuple [b1, b2] k p2] X.env := by rfl) (h2 : starEach [.Tuple [b1, b2] k p2] X.env = (false, eval (.Tuple [b1, b2] k p2) X.env) :: starEach [] X.env := by rfl)
    (h3 : starEach [b1, b2] X.env = (false, eval b1 X.env) :: starEach [b2] X.env := by rfl) (h4 : starEach [b2] X.env = (false, eval b2 X.env) :: starEach [] X.env := by rfl) (hpl : (backTo pos (starEach [.Tuple [b1, b2] k p2] X.env)).any (·.1) = false := by rfl) :
    PE X (.Call (.Name x p) [a, .Tuple [b1, b2] k p2] [] pos) (tE P E (den GD F (.isi [t, u] ca))) := by
  refine PE.mono (pe_callB call_isiT hg hm hv (pa_cons ha (pa_cons (pe_tup (pa_cons hb1 (pa_cons hb2 pa_nil h4) h3)) pa_nil h2) h1) hn hdb h1 hpl) fun σ H Q ⟨ρ, G, s, h⟩ => ?_
  unfold den at h
  refine ⟨ρ, G, s, h.bind fun x ρ1 H1 G1 st1 h1 v rv => ⟨by show 2 ≤ sizeLine; decide, fun q nq => ?_⟩⟩
  obtain ⟨d, e1, h1⟩ := h1.of
  split at h1
  · rename_i o
    have c : Cst P.K P.T H1 G1 (upd H1 q (.tup [.ty (tyS t), .ty (tyS u)])) G1 := .new st1.sim.gd nq
    have st2 := c.ste st1.sim
    rw [← hK]
    refine ⟨v, q, _, _, _, _, rfl, upd_same, .cons (.ty _) (.cons (.ty _) .nil), red_ty st2.sim.sub (held s st1 rv st2 (by rw [rd_hv]; exact e1)) o, kit_Ds _ d [t, u], ?_⟩
    exact h1 _ _ st2 _ (rep_bl (K := P.K) (G := G1))
  · exact h1.elim
theorem pe_ty {x : Str} {ty : String} (hg : Gl X x) (hm : X.mg x = none) (hv : bootBuiltins x = some (.type ty)) (hn : x ≠ "__name__" := by decide) (hdb : (x == ("__debug__" : Str)) = false := by decide) : PE X (.Name x pos) (tC (.ty ty)) := pe_bltn hg hm hv rfl hn hdb
end
end Kn

end

section
/-! K, built-in functions by values. -/
namespace Kn
open PySem PySem.Spec PyProof.Rows L2
section
variable {K : PySem.W.Frag} {T : List (Addr × Str)} {H G : Hp}
theorem RedL.one {d : D} {vs : List V} (r : RedL K H G [d] vs) : ∃ v, vs = [v] ∧ Red K H G d v := by
  cases r with
  | cons h r => cases r; exact ⟨_, rfl, h⟩
theorem RedL.two {d e : D} {vs : List V} (r : RedL K H G [d, e] vs) : ∃ v u, vs = [v, u] ∧ Red K H G d v ∧ Red K H G e u := by
  cases r with
  | cons h r => obtain ⟨u, e, h2⟩ := r.one; subst e; exact ⟨_, _, rfl, h, h2⟩
theorem ints_of : ∀ {ds : List D} {ns : List Int} {vs : List V}, allInt ds = some ns → RepL K G ds vs → vs = ns.map V.int
  | [], ns, vs, e, r => by cases e; simp only [RepL] at r; exact r
  | d :: ds, ns, vs, e, r => by
    obtain ⟨v, rr, e1, h1, h2⟩ := r.uncons
    cases d with
    | int i =>
      have e : (allInt ds).map (i :: ·) = some ns := e
      obtain ⟨ms, e2, e3⟩ := Option.map_eq_some_iff.mp e
      subst e1 e3
      simp only [Rep] at h1
      rw [h1, ints_of e2 h2]
      rfl
    | _ => cases e
theorem bls_of : ∀ {ds : List D} {ns : List Bool} {vs : List V}, allBl ds = some ns → RepL K G ds vs → vs = ns.map V.bl
  | [], ns, vs, e, r => by cases e; simp only [RepL] at r; exact r
  | d :: ds, ns, vs, e, r => by
    obtain ⟨v, rr, e1, h1, h2⟩ := r.uncons
    cases d with
    | bl i =>
      have e : (allBl ds).map (i :: ·) = some ns := e
      obtain ⟨ms, e2, e3⟩ := Option.map_eq_some_iff.mp e
      subst e1 e3
      simp only [Rep] at h1
      rw [h1, bls_of e2 h2]
      rfl
    | _ => cases e
theorem red_scr {ns : List Int} {v : V} (s : SubH G H) (h : Red K H G (.scr ns) v) : ∃ a, v = .ref a ∧ SqL K H a (ns.map V.int) := by
  rcases h with h | ⟨_, _, _, _, w⟩
  · simp only [Rep] at h
    obtain ⟨a, e, g⟩ := h
    exact ⟨a, e, s.sqL g⟩
  · exact w.elim
theorem repL_ints (ns : List Int) : RepL K G (ns.map .int) (ns.map V.int) := by
  induction ns with
  | nil => exact RepL.nil
  | cons n ns ih => exact RepL.cons rep_int ih
theorem repL_keys : ∀ {kvs : List (Key × V)}, (∀ p ∈ kvs, okK p.1) → RepL K G (kvs.map fun p => keyD p.1) (kvs.map fun p => kV p.1)
  | [], _ => RepL.nil
  | p :: kvs, h => by
    refine RepL.cons ?_ (repL_keys fun q hq => h q (List.mem_cons_of_mem _ hq))
    have o := h p (List.mem_cons_self ..)
    obtain ⟨k, v⟩ := p
    cases k with
    | inl i => exact rep_int
    | inr x =>
      have z := rep_str (K := K) (G := G) (x := x.cps.toList) o
      rw [txS_of] at z
      exact z
end
theorem bo_len : bootBuiltins "len" = some (.builtin "len") := by decide +kernel
theorem bo_abs : bootBuiltins "abs" = some (.builtin "abs") := by decide +kernel
theorem bo_max : bootBuiltins "max" = some (.builtin "max") := by decide +kernel
theorem bo_min : bootBuiltins "min" = some (.builtin "min") := by decide +kernel
theorem bo_sum : bootBuiltins "sum" = some (.builtin "sum") := by decide +kernel
theorem bo_all : bootBuiltins "all" = some (.builtin "all") := by decide +kernel
theorem bo_any : bootBuiltins "any" = some (.builtin "any") := by decide +kernel
theorem bo_sorted : bootBuiltins "sorted" = some (.builtin "sorted") := by decide +kernel
theorem bo_isinstance : bootBuiltins "isinstance" = some (.builtin "isinstance") := by decide +kernel
theorem bo_int : bootBuiltins "int" = some (.type "int") := by decide +kernel
theorem bo_bool : bootBuiltins "bool" = some (.type "bool") := by decide +kernel
theorem bo_str : bootBuiltins "str" = some (.type "str") := by decide +kernel
theorem bo_list : bootBuiltins "list" = some (.type "list") := by decide +kernel
theorem bo_tuple : bootBuiltins "tuple" = some (.type "tuple") := by decide +kernel
theorem bo_dict : bootBuiltins "dict" = some (.type "dict") := by decide +kernel
section
variable {X : Cx} {T : List (Addr × Str)}
theorem bi_len (hc : X.calm = true) : BiS X T (.builtin "len") .len := by
  intro pins s σ H vs us Q I r ⟨G, ds, r1, gd, rd, e, h⟩
  unfold biop at e
  split at e <;> first | (rename_i q; cases q; done) | (cases e; done) | skip
  rename_i d _
  obtain ⟨v, e1, hd⟩ := rd.one
  subst e1
  cases d with
  | str x =>
    dsimp only at e
    split at e
    · rename_i hl
      cases e
      obtain ⟨e2, ok⟩ := red_str hd
      refine call_len pins s σ H [v] us Q I r ⟨v, x.length, rfl, ?_, h.imm gd rep_int⟩
      rw [e2]
      exact ⟨by rw [len_txS]; exact line_str (X := X) hl, (len_txS x).symm⟩
    · cases e
  | lst x =>
    cases e
    obtain ⟨a, ws, e2, ha, r2⟩ := red_lst gd.sub hd
    refine call_len pins s σ H [v] us Q I r ⟨v, x.length, rfl, ?_, h.imm gd rep_int⟩
    rw [e2]
    exact .inl ⟨ws, .of ha, r2.length.symm⟩
  | tup x =>
    cases e
    obtain ⟨a, ws, e2, ha, r2⟩ := red_tup gd.sub hd
    refine call_len pins s σ H [v] us Q I r ⟨v, x.length, rfl, ?_, h.imm gd rep_int⟩
    rw [e2]
    exact .inr ⟨ws, ha, r2.length.symm⟩
  | dic ks ws =>
    dsimp only at e
    split at e
    · rename_i hk
      cases e
      obtain ⟨a, e1, hh⟩ := red_dic gd.sub hd
      rcases hh with ⟨kvs, rdk, ek, _⟩ | ⟨kvs, rdk, ek, ⟨ne, _⟩, _⟩
      · subst e1
        obtain ⟨u, rfl, ru⟩ := vals1 r
        cases ru
        refine d_len I rdk fun t s' I' => ⟨.int kvs.length, H, I', ⟨t, rfl⟩, ?_⟩
        have : kvs.length = ks.length := by rw [ek, List.length_map]
        rw [this]
        exact h.imm gd rep_int
      · rw [ek] at hk
        exact absurd (all_keyD hk) ne
    · cases e
  | _ => cases e
theorem bi_abs : BiS X T (.builtin "abs") .abs := by
  intro pins s σ H vs us Q I r ⟨G, ds, r1, gd, rd, e, h⟩
  unfold biop at e
  split at e <;> first | (rename_i q; cases q; done) | (cases e; done) | skip
  cases e
  obtain ⟨v, e1, hd⟩ := rd.one
  subst e1
  exact call_abs pins s σ H _ us Q I r ⟨_, by rw [red_int hd], h.imm gd rep_int⟩
theorem bi_int : BiS X T (.type "int") .int := by
  intro pins s σ H vs us Q I r ⟨G, ds, r1, gd, rd, e, h⟩
  unfold biop at e
  split at e <;> first | (rename_i q; cases q; done) | (cases e; done) | skip
  rename_i d _
  obtain ⟨v, e1, hd⟩ := rd.one
  subst e1
  cases d with
  | int i =>
    cases e
    exact call_int1 pins s σ H _ us Q I r (.inl ⟨i, by rw [red_int hd], h.imm gd rep_int⟩)
  | bl i =>
    cases e
    exact call_int1 pins s σ H _ us Q I r (.inr ⟨i, by rw [red_bl hd], h.imm gd rep_int⟩)
  | _ => cases e
theorem bi_max2 (hc : X.calm = true) : BiS X T (.builtin "max") .max2 := by
  intro pins s σ H vs us Q I r ⟨G, ds, r1, gd, rd, e, h⟩
  unfold biop at e
  split at e <;> first | (rename_i q; cases q; done) | (cases e; done) | skip
  cases e
  obtain ⟨v, u, e1, h1, h2⟩ := rd.two
  subst e1
  exact call_max2 hc pins s σ H _ us Q I r ⟨_, _, by rw [red_int h1, red_int h2], h.imm gd rep_int⟩
theorem bi_min2 (hc : X.calm = true) : BiS X T (.builtin "min") .min2 := by
  intro pins s σ H vs us Q I r ⟨G, ds, r1, gd, rd, e, h⟩
  unfold biop at e
  split at e <;> first | (rename_i q; cases q; done) | (cases e; done) | skip
  cases e
  obtain ⟨v, u, e1, h1, h2⟩ := rd.two
  subst e1
  exact call_min2 hc pins s σ H _ us Q I r ⟨_, _, by rw [red_int h1, red_int h2], h.imm gd rep_int⟩
theorem bi_sum (hc : X.calm = true) : BiS X T (.builtin "sum") .sum := by
  intro pins s σ H vs us Q I r ⟨G, ds, r1, gd, rd, e, h⟩
  unfold biop at e
  split at e <;> first | (rename_i q; cases q; done) | (cases e; done) | skip
  obtain ⟨ns, e2, e3⟩ := Option.map_eq_some_iff.mp e
  subst e3
  obtain ⟨v, e1, hd⟩ := rd.one
  subst e1
  obtain ⟨a, ws, e4, ha, r2⟩ := red_lst gd.sub hd
  subst e4
  rw [ints_of e2 r2] at ha
  exact cr_sum hc pins s σ H _ us Q I r ⟨a, ns, rfl, .of ha, h.imm gd rep_int⟩
theorem bi_all (hc : X.calm = true) : BiS X T (.builtin "all") .all := by
  intro pins s σ H vs us Q I r ⟨G, ds, r1, gd, rd, e, h⟩
  unfold biop at e
  split at e <;> first | (rename_i q; cases q; done) | (cases e; done) | skip
  obtain ⟨ns, e2, e3⟩ := Option.map_eq_some_iff.mp e
  subst e3
  obtain ⟨v, e1, hd⟩ := rd.one
  subst e1
  obtain ⟨a, ws, e4, ha, r2⟩ := red_lst gd.sub hd
  subst e4
  rw [bls_of e2 r2] at ha
  exact cr_all hc pins s σ H _ us Q I r ⟨a, ns, rfl, .of ha, h.imm gd rep_bl⟩
theorem bi_any (hc : X.calm = true) : BiS X T (.builtin "any") .any := by
  intro pins s σ H vs us Q I r ⟨G, ds, r1, gd, rd, e, h⟩
  unfold biop at e
  split at e <;> first | (rename_i q; cases q; done) | (cases e; done) | skip
  obtain ⟨ns, e2, e3⟩ := Option.map_eq_some_iff.mp e
  subst e3
  obtain ⟨v, e1, hd⟩ := rd.one
  subst e1
  obtain ⟨a, ws, e4, ha, r2⟩ := red_lst gd.sub hd
  subst e4
  rw [bls_of e2 r2] at ha
  exact cr_any hc pins s σ H _ us Q I r ⟨a, ns, rfl, .of ha, h.imm gd rep_bl⟩
theorem bi_list (hc : X.calm = true) : BiS X T (.type "list") .list := by
  intro pins s σ H vs us Q I r ⟨G, ds, r1, gd, rd, e, h⟩
  unfold biop at e
  split at e <;> first | (rename_i q; cases q; done) | (cases e; done) | skip
  rename_i d _
  obtain ⟨v, e1, hd⟩ := rd.one
  subst e1
  cases d with
  | lst x =>
    cases e
    obtain ⟨a, ws, e2, ha, r2⟩ := red_lst gd.sub hd
    exact call_list_of pins s σ H _ us Q I r ⟨a, ws, by rw [e2], .inl (.of ha), fun p np => h.lst gd np r2⟩
  | tup x =>
    cases e
    obtain ⟨a, ws, e2, ha, r2⟩ := red_tup gd.sub hd
    exact call_list_of pins s σ H _ us Q I r ⟨a, ws, by rw [e2], .inr ha, fun p np => h.lst gd np r2⟩
  | scr ns =>
    cases e
    obtain ⟨a, e2, ha⟩ := red_scr gd.sub hd
    exact call_list_of pins s σ H _ us Q I r ⟨a, _, by rw [e2], .inl ha, fun p np => h.lst gd np (repL_ints ns)⟩
  | dic ks ws =>
    dsimp only at e
    split at e
    · rename_i hk
      cases e
      obtain ⟨a, e1, hh⟩ := red_dic gd.sub hd
      rcases hh with ⟨kvs, rd, ek, ok, _⟩ | ⟨kvs, rd, ek, ⟨ne, _⟩, _⟩
      · refine call_listD hc pins s σ H _ us Q I r ⟨a, kvs, by rw [e1], rd, fun p np => ?_⟩
        subst ek
        exact h.lst gd np (repL_keys ok)
      · rw [ek] at hk
        exact absurd (all_keyD hk) ne
    · cases e
  | _ => cases e
theorem bi_tuple (hc : X.calm = true) : BiS X T (.type "tuple") .tuple := by
  intro pins s σ H vs us Q I r ⟨G, ds, r1, gd, rd, e, h⟩
  unfold biop at e
  split at e <;> first | (rename_i q; cases q; done) | (cases e; done) | skip
  rename_i d _
  obtain ⟨v, e1, hd⟩ := rd.one
  subst e1
  cases d with
  | lst x =>
    cases e
    obtain ⟨a, ws, e2, ha, r2⟩ := red_lst gd.sub hd
    exact call_tuple_of pins s σ H _ us Q I r ⟨a, ws, by rw [e2], .inl ⟨.of ha, fun p np => h.tup gd np r2⟩⟩
  | tup x =>
    cases e
    obtain ⟨a, ws, e2, ha, r2⟩ := red_tup gd.sub hd
    refine call_tuple_of pins s σ H _ us Q I r ⟨a, ws, by rw [e2], .inr ⟨ha, ?_⟩⟩
    rw [← e2]
    exact h.imm gd (red_tupG hd)
  | _ => cases e
end
end Kn

end

section
/-! K, functions' promises and calls. -/
namespace Kn
open PySem PySem.Spec PyProof.Rows L2

/-- the slots at a call: the arguments -/
def argE (io : Bool) : List D → Env
  | [] => []
  | d :: ds => (if io then some (.own d) else some (.imm d)) :: ds.map fun d => some (.imm d)
def argE' (io : Bool) (ds : List D) (b : D) : Env := if io then argE true (b :: ds.tail) else argE false ds
def spF (P : Pm) (io : Bool) (f : Fn) : Sp := fun vs H Q E => ∃ ds G, Sim P.K P.T (argE io ds) (vs.map some) H G ∧ match f ds with
  | .ok r => ∀ v H' G', Stp P.K P.T (argE io ds) (vs.map some) H G (argE' io ds r.2) (vs.map some) H' G' → Got P.K H H' G' v (r.1.2, r.1.1) → Q v H'
  | .exc c p => ∀ cls dd H', XSt P (vs.map some) (argE io ds) H H' → P.XC c p cls dd H' → E cls dd H'
  | .bad => False
theorem argE_len (io : Bool) (ds : List D) : (argE io ds).length = ds.length := by
  cases ds with
  | nil => rfl
  | cons d ds => simp [argE]
theorem argE_imm {ds : List D} {i : Nat} {d : D} : IsI (argE false ds) i d → ds[i]? = some d := fun h => by
  cases ds with
  | nil => simp [argE, IsI, IsO] at h
  | cons e ds =>
    cases i with
    | zero => simpa [argE, IsI, IsO] using h
    | succ i => simpa [argE, IsI, IsO] using h
theorem argE_own {ds : List D} {i : Nat} {d : D} : ¬ IsO (argE false ds) i d := fun h => by
  cases ds with
  | nil => simp [argE, IsI, IsO] at h
  | cons e ds =>
    cases i with
    | zero => simp [argE, IsI, IsO] at h
    | succ i => simp [argE, IsI, IsO] at h
theorem argE_imm1 {b : D} {ds : List D} {i : Nat} {d : D} : IsI (argE true (b :: ds)) i d → ∃ j, i = j + 1 ∧ ds[j]? = some d := fun h => by
  cases i with
  | zero => simp [argE, IsI, IsO] at h
  | succ i => exact ⟨i, rfl, by simpa [argE, IsI, IsO] using h⟩
theorem argE_own1 {b : D} {ds : List D} {i : Nat} {d : D} : IsO (argE true (b :: ds)) i d → i = 0 ∧ d = b := fun h => by
  cases i with
  | zero => simp [argE, IsI, IsO] at h; exact ⟨rfl, h.symm⟩
  | succ i => simp [argE, IsI, IsO] at h
section
variable {P : Pm} {E : XK} {ρ ρ' : Env} {σ : L2.St} {H H' G G' : Hp}
theorem some_at {vs : List V} {i : Nat} {v : V} : IsV (vs.map some) i v ↔ vs[i]? = some v := by
  unfold IsV
  rw [List.getElem?_map]
  cases vs[i]? <;> simp
theorem args_sim {ds : List D} {vs : List V} (g : Gd P.K P.T H G) (r : RepL P.K G ds vs) : Sim P.K P.T (argE false ds) (vs.map some) H G :=
  ⟨by rw [argE_len, List.length_map, r.length], g.sub, g.gnt, fun i d h => by
    obtain ⟨v, e, q⟩ := r.get (argE_imm h)
    exact ⟨v, some_at.mpr e, q⟩, fun i d h => (argE_own h).elim, fun i j d e a h => (argE_own h).elim, g.tabs⟩
theorem args_ow {ds : List D} {vs : List V} {b : Addr} : ¬ Ow (argE false ds) (vs.map some) b := fun ⟨_, _, h, _⟩ => argE_own h
theorem args_cst {ds : List D} {vs : List V} {ρ' : Env} (s : Stp P.K P.T (argE false ds) (vs.map some) H G ρ' (vs.map some) H' G') : Cst P.K P.T H G H' G' :=
  ⟨s.sub, s.sim.sub, s.sim.gnt, fun b o h n => s.frame b o h n args_ow, fun b o h m g => s.gfr b o h m g args_ow, s.mono, s.sim.tabs⟩
/-- with the box -/
theorem args_sim1 {b : D} {ds : List D} {a : Addr} {o : HO} {vs : List V} (g : Gd P.K P.T H G) (ga : G a = none) (ha : H a = some o) (w : OwnO P.K G b o) (r : RepL P.K G ds vs) : Sim P.K P.T (argE true (b :: ds)) ((V.ref a :: vs).map some) H G :=
  ⟨by rw [argE_len, List.length_map, List.length_cons, List.length_cons, r.length], g.sub, g.gnt, fun i d h => by
    obtain ⟨j, e, h2⟩ := argE_imm1 h
    subst e
    obtain ⟨v, e, q⟩ := r.get h2
    exact ⟨v, some_at.mpr (by simpa using e), q⟩, fun i d h => by
      obtain ⟨e1, e2⟩ := argE_own1 h
      subst e1 e2
      exact ⟨a, o, rfl, ga, ha, w⟩, fun i j d e a h h' _ _ => by rw [(argE_own1 h).1, (argE_own1 h').1], g.tabs⟩
theorem args_ow1 {b : D} {ds : List D} {a c : Addr} {vs : List V} (h : Ow (argE true (b :: ds)) ((V.ref a :: vs).map some) c) : c = a := by
  obtain ⟨i, d, h1, h2⟩ := h
  obtain ⟨e1, _⟩ := argE_own1 h1
  subst e1
  cases (some_at.mp h2)
  rfl
end
/-- what is known of a callee -/
structure FnAt (prog : Program) (w : World) (K : PySem.W.Frag) (mg : Str → Option Value) (base : Heap) (P : Pm) (k : Nat) (x : Str) (io : Bool) (f : Fn) : Prop where
  ex : ∃ a fd ps, mg x = some (.ref a) ∧ PySem.W.keepIn K (.ref a) = true ∧ FnOk prog w K mg base (L2.CX prog w) k a fd ps (spF P io f) ∧ Binds K fd ps []
section
variable {X : Cx} {P : Pm} {E : XK} {GD : Nat → D} {F : Nat → Fn} {pos : Pos} {a b c e : Expr} {ca cb cc ce : CE} {es : List Expr} {cs : CL}
theorem ke_call {k i : Nat} {x : Str} {p : Pos} (fa : FnAt X.prog X.w X.K X.mg X.base P k x false (F i)) (hr : Room k X.A) (hx : Passes (L2.CX X.prog X.w) X E) (hg : Gl X x) (ha : PA X (e :: es) (tF P E (denF GD F cs)))
    (hdb : (x == ("__debug__" : Str)) = false := by decide) (he : starEach (e :: es) X.env = (false, eval e X.env) :: starEach es X.env := by rfl) (hpl : (backTo pos (starEach es X.env)).any (·.1) = false := by rfl) :
    PE X (.Call (.Name x p) (e :: es) [] pos) (tE P E (den GD F (.call i cs))) := by
  obtain ⟨f, fd, ps, hm, hk, FO, hb⟩ := fa.ex
  refine PE.mono (pe_call FO hr hg hm hk hb .nil hx ha hdb he hpl) fun σ H Q ⟨ρ, G, s, h⟩ => ?_
  unfold den at h
  refine ⟨ρ, G, s, h.bind fun ds ρ1 H1 G1 st1 h1 vs rs => ?_⟩
  show spF P false (F i) (vs ++ []) H1 Q E
  rw [List.append_nil]
  refine ⟨ds, G1, args_sim st1.sim.gd rs, ?_⟩
  dsimp only at h1
  cases q : F i ds with
  | ok r =>
    rw [q] at h1
    exact fun v H' G' st g => then_of (r := (r.1.2, r.1.1)) st1.sim st1.st.mono h1 v H' G' (args_cst st) g
  | exc c p =>
    rw [q] at h1
    exact fun cls dd H' x xc => h1 cls dd H' ⟨fun b o hb n _ => x.frame b o hb n args_ow, x.mono, x.tabs⟩ xc
  | bad => rw [q] at h1; exact h1.elim
theorem ke_call0 {k i : Nat} {x : Str} {p : Pos} (fa : FnAt X.prog X.w X.K X.mg X.base P k x false (F i)) (hr : Room k X.A) (hx : Passes (L2.CX X.prog X.w) X E) (hg : Gl X x)
    (hdb : (x == ("__debug__" : Str)) = false := by decide) : PE X (.Call (.Name x p) [] [] pos) (tE P E (den GD F (.call i .nil))) := by
  obtain ⟨f, fd, ps, hm, hk, FO, hb⟩ := fa.ex
  refine PE.mono (pe_call0 FO hr hg hm hk hb .nil hx hdb) fun σ H Q ⟨ρ, G, s, h⟩ => ?_
  unfold den at h
  unfold denF at h
  refine ⟨[], G, args_sim (ds := []) (vs := []) s.gd RepL.nil, ?_⟩
  have h1 : EndX P E σ ρ H G (OkE P σ H Q) ((F i []).bind fun r => .ok (if r.1.1 then .tmp r.1.2 else .imm r.1.2, ρ)) := h
  cases q : F i [] with
  | ok r =>
    rw [q] at h1
    exact fun v H' G' st g => then_of (r := (r.1.2, r.1.1)) s (fun _ z => z) h1 v H' G' (args_cst (vs := []) st) g
  | exc c p =>
    rw [q] at h1
    exact fun cls dd H' x xc => h1 cls dd H' ⟨fun b o hb n _ => x.frame b o hb n (args_ow (vs := [])), x.mono, x.tabs⟩ xc
  | bad => rw [q] at h1; exact h1.elim
/-- f(box, ..) -/
theorem ke_cio {k i j : Nat} {x y : Str} {p py : Pos} (fa : FnAt X.prog X.w X.K X.mg X.base P k x true (F i)) (hr : Room k X.A) (hx : Passes (L2.CX X.prog X.w) X E) (hg : Gl X x) (hN : X.N[j]? = some y) (hv : Vis X.env.scope y) (ha : PA X es (tF P E (denF GD F cs)))
    (hd : (y == ("__debug__" : Str)) = false := by decide) (hcd : (y == ("__classdict__" : Str)) = false := by decide) (hdb : (x == ("__debug__" : Str)) = false := by decide) (he : starEach (.Name y py :: es) X.env = (false, eval (.Name y py) X.env) :: starEach es X.env := by rfl) (hpl : (backTo pos (starEach es X.env)).any (·.1) = false := by rfl) :
    PE X (.Call (.Name x p) (.Name y py :: es) [] pos) (tE P E (den GD F (.cio i j cs))) := by
  obtain ⟨f, fd, ps, hm, hk, FO, hb⟩ := fa.ex
  refine PE.mono (pe_call FO hr hg hm hk hb .nil hx (pa_cons (pe_var hN hv hd hcd) ha he) hdb he hpl) fun σ H Q ⟨ρ, G, s, h⟩ => ?_
  unfold den at h
  split at h
  · rename_i b0 q0
    obtain ⟨l, o0, el, gl, hl, w0⟩ := s.own j b0 q0
    refine ⟨.ref l, el, ρ, G, s, h.bind fun ds ρ1 H1 G1 st1 h1 vs rs => ?_⟩
    show spF P true (F i) ((V.ref l :: vs) ++ []) H1 Q E
    rw [List.append_nil]
    dsimp only at h1
    split at h1
    · rename_i b qb
      obtain ⟨l1, o, el1, gl1, hl1, w⟩ := st1.sim.own j b qb
      cases el.inj el1
      refine ⟨b :: ds, G1, args_sim1 st1.sim.gd gl1 hl1 w rs, ?_⟩
      have owl : ∀ c, Ow (argE true (b :: ds)) ((V.ref l :: vs).map some) c → c = l := fun c => args_ow1
      cases q : F i (b :: ds) with
      | ok r =>
        rw [q] at h1
        intro v H' G' st g
        have own0 : IsO (argE' true (b :: ds) r.2) 0 r.2 := rfl
        obtain ⟨l2, o', el2, gl2, hl2, w2⟩ := st.sim.own 0 r.2 own0
        have e2 : V.ref l = V.ref l2 := Option.some.inj (Option.some.inj (show some (some (V.ref l)) = some (some (V.ref l2)) from el2))
        cases e2
        have sim : Sim P.K P.T (ρ1.set j (some (.own r.2))) σ H' G' := by
          refine ⟨by rw [List.length_set]; exact st1.sim.len, st.sim.sub, st.sim.gnt, fun i' d q => ?_, fun i' d q => ?_, fun i' j' d e a' q q' e1 e2 => ?_, st.sim.tabs⟩
          · rcases isI_set q with ⟨_, _, z⟩ | ⟨_, q⟩
            · cases z
            · obtain ⟨u, e1, r1⟩ := st1.sim.imm i' d q
              exact ⟨u, e1, Rep.sub st.sub _ r1⟩
          · rcases isO_set q with ⟨e0, _, z⟩ | ⟨ne, q⟩
            · cases z
              subst e0
              exact ⟨l, o', el, gl2, hl2, w2⟩
            · obtain ⟨a', o1, e1, g1, h1', w1⟩ := st1.sim.own i' d q
              have na : a' ≠ l := fun z => ne (st1.sim.dis i' j d b a' q qb e1 (by rw [z]; exact el))
              exact ⟨a', o1, e1, st.gfr a' o1 h1' w1.mut g1 (fun z => na (owl a' z)), st.frame a' o1 h1' (nt_mut w1.mut) (fun z => na (owl a' z)), w1.sub st.sub⟩
          · have own_of : ∀ {i' : Nat} {d : D}, IsO (ρ1.set j (some (.own r.2))) i' d → ∃ d', IsO ρ1 i' d' := fun {i' d} q => by
              rcases isO_set q with ⟨e0, _, z⟩ | ⟨_, q⟩
              · subst e0; exact ⟨b, qb⟩
              · exact ⟨d, q⟩
            obtain ⟨d1, q1⟩ := own_of q
            obtain ⟨d2, q2⟩ := own_of q'
            exact st1.sim.dis i' j' d1 d2 a' q1 q2 e1 e2
        have owj : Ow ρ1 σ l := ⟨j, b, qb, el⟩
        have st2 : StE P.K P.T σ ρ1 H1 G1 (ρ1.set j (some (.own r.2))) H' G' := by
          refine ⟨⟨sim, st.sub, fun c o1 hc n w1 => st.frame c o1 hc n fun z => w1 (by rw [owl c z]; exact owj), fun c o1 hc m g1 w1 => st.gfr c o1 hc m g1 fun z => w1 (by rw [owl c z]; exact owj), fun c z => ?_, st.mono, List.length_set⟩, fun i' d q => ?_⟩
          · obtain ⟨i', d, q, e1⟩ := z
            rcases isO_set q with ⟨e0, _, z⟩ | ⟨_, q⟩
            · subst e0; cases el.inj e1; exact .inl owj
            · exact .inl ⟨i', d, q, e1⟩
          · rcases isO_set q with ⟨e0, _, z⟩ | ⟨_, q⟩
            · subst e0; exact ⟨b, qb⟩
            · exact ⟨d, q⟩
        refine h1 H' G' st2 v ?_
        unfold Got at g
        split at g
        · rename_i hr'
          show RVok P.K _ σ H H' G' v (if r.1.1 = true then .tmp r.1.2 else .imm r.1.2)
          rw [if_pos hr']
          obtain ⟨a', o1, e1, h1', g1, w1, n1⟩ := g
          exact ⟨a', o1, e1, h1', g1, w1, fun z => n1 (st1.st.mono a' z)⟩
        · rename_i hr'
          show RVok P.K _ σ H H' G' v (if r.1.1 = true then .tmp r.1.2 else .imm r.1.2)
          rw [if_neg hr']
          exact g
      | exc c p =>
        rw [q] at h1
        have owj : Ow ρ1 σ l := ⟨j, b, qb, el⟩
        exact fun cls dd H' x xc => h1 cls dd H' ⟨fun c o1 hc n w1 => x.frame c o1 hc n fun z => w1 (by rw [owl c z]; exact owj), x.mono, x.tabs⟩ xc
      | bad => rw [q] at h1; exact h1.elim
    · exact h1.elim
  · exact h.elim
end
end Kn

end

section
/-! K, what loops walk. -/
namespace Kn
open PySem PySem.Spec PyProof.Rows L2

/-- the iterator gives the data, while what it walks stands -/
structure Gives (P : Pm) (J : It) (ds : List D) (kp : Addr → Prop) (H1 G1 : Hp) : Prop where
  go : ∀ i H G, i < ds.length → Sub G1 G → SubH G H → (∀ b o, kp b → H1 b = some o → H b = some o) → J.go i H
  stop : ∀ H G, Sub G1 G → SubH G H → (∀ b o, kp b → H1 b = some o → H b = some o) → J.stop ds.length H
  yld : ∀ i d H G x H', ds[i]? = some d → Sub G1 G → Gd P.K P.T H G → (∀ b o, kp b → H1 b = some o → H b = some o) → J.yld i H x H' → ∃ G', Cst P.K P.T H G H' G' ∧ Rep P.K G' d x
/-- the addresses of the hidden slots -/
def kpOf (ρ : Env) (σ : L2.St) (hd : List Nat) (b : Addr) : Prop := ∃ i d, i ∈ hd ∧ IsO ρ i d ∧ IsV σ i (.ref b)
abbrev OkI (P : Pm) (σ : L2.St) (hd : List Nat) (R : It → Hp → Prop) : List D → Env → Hp → Hp → Prop := fun ds ρ' H' G' => ∀ J, Gives P J ds (kpOf ρ' σ hd) H' G' → R J H'
def tI (P : Pm) (E : XK) (hd : List Nat) (f : Env → R (List D × Env)) : TI := fun σ H R => ∃ ρ G, Sim P.K P.T ρ σ H G ∧ EndX P E σ ρ H G (OkI P σ hd R) (f ρ)
theorem PI.mono {X : Cx} {tg e : Expr} {t t' : TI} (h : PI X tg e t) (m : ∀ σ H Q, t' σ H Q → t σ H Q) : PI X tg e t' := ⟨fun pins s σ H Q I q => h.run pins s σ H Q I (m σ H Q q)⟩
/-- what is walked: frozen, or an own object that is out of sight -/
def Held (K : PySem.W.Frag) (H G : Hp) (kp : Addr → Prop) (d : D) (v : V) : Prop := Rep K G d v ∨ ∃ a o, v = .ref a ∧ kp a ∧ H a = some o ∧ OwnO K G d o
section
variable {P : Pm} {E : XK} {ρ ρ' ρ1 : Env} {σ : L2.St} {H H' H1 G G' G1 : Hp}
theorem fzH_ok {hd : List Nat} {v : V} {x : RV} {d : D} {ρ2 : Env} {H₀ G₀ : Hp} {ρ₀ : Env} (s₀ : Sim P.K P.T ρ₀ σ H₀ G₀) (a : StE P.K P.T σ ρ₀ H₀ G₀ ρ H G) (h : RVok P.K ρ σ H₀ H G v x) (e : fzH hd ρ x = some (d, ρ2)) :
    ∃ G2, StE P.K P.T σ ρ₀ H₀ G₀ ρ2 H G2 ∧ Held P.K H G2 (kpOf ρ2 σ hd) d v := by
  cases x with
  | imm d' => obtain ⟨G2, h1, h2, _⟩ := fz_ok s₀ a h (show fz ρ (.imm d') = some (d, ρ2) from e); exact ⟨G2, h1, .inl h2⟩
  | tmp d' => obtain ⟨G2, h1, h2, _⟩ := fz_ok s₀ a h (show fz ρ (.tmp d') = some (d, ρ2) from e); exact ⟨G2, h1, .inl h2⟩
  | slot i =>
    by_cases hi : i ∈ hd
    · have e' : (match ρ[i]? with
        | some (some (.own d)) => some (d, if hd.contains i then ρ else ρ.set i (some (.imm d)))
        | some (some (.imm d)) => some (d, ρ)
        | _ => none) = some (d, ρ2) := e
      split at e'
      · rename_i d' q
        rw [if_pos (List.contains_iff_mem.mpr hi)] at e'
        cases e'
        obtain ⟨b, o, q2, g, h3, w⟩ := a.sim.own i _ q
        cases h.1.inj q2
        exact ⟨G, a, .inr ⟨b, o, rfl, ⟨i, _, hi, q, q2⟩, h3, w⟩⟩
      · rename_i d' q
        cases e'
        obtain ⟨u, q2, r⟩ := a.sim.imm i _ q
        cases h.1.inj q2
        exact ⟨G, a, .inl r⟩
      · cases e'
    · refine (fun ⟨G2, h1, h2, _⟩ => ⟨G2, h1, .inl h2⟩) (fz_ok s₀ a h (ρ2 := ρ2) (d := d) ?_)
      rw [← e]
      show (match ρ[i]? with
        | some (some (.own d)) => some (d, ρ.set i (some (.imm d)))
        | some (some (.imm d)) => some (d, ρ)
        | _ => none) = (match ρ[i]? with
        | some (some (.own d)) => some (d, if hd.contains i then ρ else ρ.set i (some (.imm d)))
        | some (some (.imm d)) => some (d, ρ)
        | _ => none)
      have : hd.contains i = false := Bool.eq_false_iff.mpr fun z => hi (List.contains_iff_mem.mp z)
      rw [this]
      rfl
theorem held_lst {kp : Addr → Prop} {xs : List D} {v : V} (s : SubH G H) (h : Held P.K H G kp (.lst xs) v) : ∃ a vs, v = .ref a ∧ RepL P.K G xs vs ∧ ∀ H' G', Sub G G' → SubH G' H' → (∀ b o, kp b → H b = some o → H' b = some o) → H' a = some (.lst vs) := by
  rcases h with h | ⟨a, o, e, k, ha, w⟩
  · simp only [Rep] at h
    obtain ⟨a, vs, e, g, r⟩ := h
    exact ⟨a, vs, e, r, fun H' G' s1 s2 _ => s2.lst (s1 _ _ g)⟩
  · obtain ⟨vs, e2, r⟩ := w
    subst e2
    exact ⟨a, vs, e, r, fun H' G' _ _ k' => k' a _ k ha⟩
theorem held_tup {kp : Addr → Prop} {xs : List D} {v : V} (s : SubH G H) (h : Held P.K H G kp (.tup xs) v) : ∃ a vs, v = .ref a ∧ RepL P.K G xs vs ∧ ∀ H' G', Sub G G' → SubH G' H' → SqT P.K H' a vs := by
  rcases h with h | ⟨a, o, e, k, ha, w⟩
  · simp only [Rep] at h
    obtain ⟨a, vs, e, g, r⟩ := h
    exact ⟨a, vs, e, r, fun H' G' s1 s2 => s2.sqT (SqT_sub s1 g)⟩
  · exact w.elim
theorem held_red {kp : Addr → Prop} {d : D} {v : V} (h : Held P.K H G kp d v) : Red P.K H G d v := h.imp id fun ⟨a, o, e, _, ha, w⟩ => ⟨a, o, e, ha, w⟩
/-! ### the iterators give what they walk -/
theorem gives_list {kp : Addr → Prop} {xs : List D} {vs : List V} {a : Addr} (r : RepL P.K G xs vs) (k : ∀ H' G', Sub G G' → SubH G' H' → (∀ b o, kp b → H b = some o → H' b = some o) → H' a = some (.lst vs)) : Gives P (Itl P.K a) xs kp H G where
  go := fun i H' G' hi s1 s2 k' => ⟨vs, vs[i]'(by rw [r.length]; exact hi), .of (k H' G' s1 s2 k'), List.getElem?_eq_getElem _⟩
  stop := fun H' G' s1 s2 k' => ⟨vs, .of (k H' G' s1 s2 k'), by rw [r.length]; exact Nat.le_refl _⟩
  yld := fun i d H' G' x H'' e s1 g k' y => by
    obtain ⟨e1, y2⟩ := y
    subst e1
    obtain ⟨v, e2, r2⟩ := r.get e
    have e3 := y2 vs (.of (k H'' G' s1 g.sub k'))
    rw [e2] at e3
    cases e3
    exact ⟨G', .refl g, Rep.sub s1 _ r2⟩
theorem gives_tup {kp : Addr → Prop} {xs : List D} {vs : List V} {a : Addr} (r : RepL P.K G xs vs) (k : ∀ H' G', Sub G G' → SubH G' H' → SqT P.K H' a vs) : Gives P (Itt P.K a) xs kp H G where
  go := fun i H' G' hi s1 s2 k' => ⟨vs, vs[i]'(by rw [r.length]; exact hi), k H' G' s1 s2, List.getElem?_eq_getElem _⟩
  stop := fun H' G' s1 s2 k' => ⟨vs, k H' G' s1 s2, by rw [r.length]; exact Nat.le_refl _⟩
  yld := fun i d H' G' x H'' e s1 g k' y => by
    obtain ⟨e1, y2⟩ := y
    subst e1
    obtain ⟨v, e2, r2⟩ := r.get e
    have e3 := y2 vs (k H'' G' s1 g.sub)
    rw [e2] at e3
    cases e3
    exact ⟨G', .refl g, Rep.sub s1 _ r2⟩
theorem gives_scr {kp : Addr → Prop} {ns : List Int} {a : Addr} (h : SqL P.K G a (ns.map V.int)) : Gives P (Itl P.K a) (ns.map .int) kp H G where
  go := fun i H' G' hi s1 s2 k' => ⟨ns.map V.int, _, s2.sqL (SqL_sub s1 h), List.getElem?_eq_getElem (by rw [List.length_map] at hi ⊢; exact hi)⟩
  stop := fun H' G' s1 s2 k' => ⟨ns.map V.int, s2.sqL (SqL_sub s1 h), by simp⟩
  yld := fun i d H' G' x H'' e s1 g k' y => by
    obtain ⟨e1, y2⟩ := y
    subst e1
    have e3 := y2 _ (g.sub.sqL (SqL_sub s1 h))
    rw [List.getElem?_map] at e e3
    obtain ⟨n, e4, e5⟩ := Option.map_eq_some_iff.mp e
    rw [e4] at e3
    cases e3
    subst e5
    exact ⟨G', .refl g, rep_int⟩
theorem gives_str {kp : Addr → Prop} {x : List Nat} (o : okT x) : Gives P (Its (txS x)) (strItems x) kp H G where
  go := fun i H' G' hi s1 s2 k' => by
    show i < (txS x).cps.size
    simpa [strItems] using hi
  stop := fun H' G' s1 s2 k' => by
    show (txS x).cps.size ≤ (strItems x).length
    simp [strItems]
  yld := fun i d H' G' v H'' e s1 g k' y => by
    obtain ⟨e1, c, e2, e3⟩ := y
    subst e1 e3
    have e : (strItems x)[i]? = some d := e
    rw [show strItems x = x.map fun c => D.str [c] from rfl, List.getElem?_map] at e
    obtain ⟨c', e4, e5⟩ := Option.map_eq_some_iff.mp e
    have e2 : (txS x).cps[i]? = some c := e2
    have : c = c' := by
      have z : x[i]? = some c := by simpa using e2
      rw [e4] at z
      exact (Option.some.inj z).symm
    subst this e5
    refine ⟨G', .refl g, ?_⟩
    exact rep_str (x := [c]) (okT_sub o fun z hz => by rw [List.mem_singleton] at hz; subst hz; exact List.mem_of_getElem? e4)
theorem rng_one (a b : Int) : rng a b 1 = (List.range (b - a).toNat).map fun (k : Nat) => D.int (a + k * 1) := by
  unfold rng
  rw [if_pos (by decide)]
  congr 2
  rw [Int.ediv_one]
  omega
theorem gives_rng {kp : Addr → Prop} {a : Int} {n : Nat} : Gives P (Itr a n) ((List.range n).map fun (k : Nat) => D.int (a + k * 1)) kp H G where
  go := fun i H' G' hi s1 s2 k' => by show i < n; simpa using hi
  stop := fun H' G' s1 s2 k' => by show n ≤ _; simp
  yld := fun i d H' G' v H'' e s1 g k' y => by
    obtain ⟨e1, e2⟩ := y
    subst e1 e2
    rw [List.getElem?_map] at e
    obtain ⟨m, e4, e5⟩ := Option.map_eq_some_iff.mp e
    obtain ⟨hm, e6⟩ := List.getElem?_eq_some_iff.mp e4
    rw [List.getElem_range] at e6
    subst e6 e5
    refine ⟨G', .refl g, ?_⟩
    rw [Int.mul_one]
    exact rep_int
theorem gives_rngC {kp : Addr → Prop} {a c : Int} {n : Nat} : Gives P (Itc a c n) ((List.range n).map fun (k : Nat) => D.int (a + k * c)) kp H G where
  go := fun i H' G' hi s1 s2 k' => by show i < n; simpa using hi
  stop := fun H' G' s1 s2 k' => by show n ≤ _; simp
  yld := fun i d H' G' v H'' e s1 g k' y => by
    obtain ⟨e1, e2⟩ := y
    subst e1 e2
    rw [List.getElem?_map] at e
    obtain ⟨m, e4, e5⟩ := Option.map_eq_some_iff.mp e
    obtain ⟨hm, e6⟩ := List.getElem?_eq_some_iff.mp e4
    rw [List.getElem_range] at e6
    subst e6 e5
    exact ⟨G', .refl g, rep_int⟩
end
section
variable {X : Cx} {P : Pm} {E : XK} {GD : Nat → D} {F : Nat → Fn} {pos p : Pos} {a b c e tg : Expr} {ca cb cc ce : CE} {es : List Expr} {cs : CL} {hd : List Nat}
/-- what a value gives, walked -/
theorem iter_val {pins : List (Addr × Obj)} {σ : L2.St} {H G : Hp} {s : Shared} {x : V} {v : Value} {d : D} {ds : List D} {R : It → Hp → Prop} {kp : Addr → Prop} (hK : P.K = X.K) (I : Inv X pins σ H s) (rx : RelV x v) (g : Gd P.K P.T H G) (h : Held P.K H G kp d x) (hn : isDic d = false) (e : itemsOf d = some ds)
    (hR : ∀ J, Gives P J ds kp H G → R J H) : wpAny (model X.prog X.w) X.A (pyIter v) (PIE X pins σ tg R) X.xe s := by
  cases d with
  | lst xs =>
    cases e
    obtain ⟨a, vs, e1, r, k⟩ := held_lst g.sub h
    subst e1
    cases rx
    have hq : SqL X.K H a vs := .of (k H G (Sub.refl G) g.sub fun _ _ _ z => z)
    obtain ⟨its, rv, p, hz⟩ := I.list hq
    refine wpAny_pyIter_list p.isList ?_
    refine ⟨s.heap.objs.size, [s.heap.objs.size], _, _, H, rfl, I.kept (t' := s.toks) fun b o e => Heap.get?_push_of_some _ e, turn_list a _, ⟨_, Heap.get?_push_size _ rfl, rfl, rfl⟩, fun b hb => ?_, ?_⟩
    · have e : b = s.heap.objs.size := by simpa using hb
      subst e
      exact I.fpOk (Nat.le_refl _) (I.hok.fresh (Nat.le_refl _))
    · rw [← hK]
      exact hR _ (gives_list r k)
  | tup xs =>
    cases e
    obtain ⟨a, vs, e1, r, k⟩ := held_tup g.sub h
    subst e1
    cases rx
    have hq : SqT X.K H a vs := by rw [← hK]; exact k H G (Sub.refl G) g.sub
    obtain ⟨its, rv, p, hz⟩ := I.tuple hq
    refine wpAny_pyIter_tuple (show s.heap.IsTuple a its.toArray from p) ?_
    refine ⟨s.heap.objs.size, [s.heap.objs.size], _, _, H, rfl, I.kept (t' := s.toks) fun b o e => Heap.get?_push_of_some _ e, turn_tuple a _, ⟨_, Heap.get?_push_size _ rfl, rfl, rfl⟩, fun b hb => ?_, ?_⟩
    · have e : b = s.heap.objs.size := by simpa using hb
      subst e
      exact I.fpOk (Nat.le_refl _) (I.hok.fresh (Nat.le_refl _))
    · rw [← hK]
      exact hR _ (gives_tup r k)
  | scr ns =>
    cases e
    rcases h with h | ⟨_, _, _, _, _, w⟩
    · simp only [Rep] at h
      obtain ⟨a, e1, hs⟩ := h
      subst e1
      cases rx
      have hq : SqL X.K H a (ns.map V.int) := by rw [← hK]; exact g.sub.sqL hs
      obtain ⟨its, rv, p, hz⟩ := I.list hq
      refine wpAny_pyIter_list p.isList ?_
      refine ⟨s.heap.objs.size, [s.heap.objs.size], _, _, H, rfl, I.kept (t' := s.toks) fun b o e => Heap.get?_push_of_some _ e, turn_list a _, ⟨_, Heap.get?_push_size _ rfl, rfl, rfl⟩, fun b hb => ?_, ?_⟩
      · have e : b = s.heap.objs.size := by simpa using hb
        subst e
        exact I.fpOk (Nat.le_refl _) (I.hok.fresh (Nat.le_refl _))
      · rw [← hK]
        exact hR _ (gives_scr hs)
    · exact w.elim
  | str x' =>
    cases e
    obtain ⟨e1, o⟩ := red_str (held_red h)
    subst e1
    obtain ⟨t, rfl⟩ := rx
    have q := hR _ (gives_str o)
    cases ha : (txS x').cps.all (· < 128)
    · exact wpAny_pyIter_wide ha (pi_one (tk := s.toks) I _ (turn_str _ (txS x') t "str_iterator" (.inr rfl)) ⟨_, Heap.get?_push_size _ rfl, rfl, rfl⟩ q)
    · exact wpAny_pyIter_ascii ha (pi_one (tk := s.toks) I _ (turn_str _ (txS x') t "str_ascii_iterator" (.inl rfl)) ⟨_, Heap.get?_push_size _ rfl, rfl, rfl⟩ q)
  | dic ks ws => cases hn
  | _ => cases e
theorem ki_ex (hK : P.K = X.K) (he : PE X e (tE P E (den GD F ce))) : PI X tg e (tI P E hd (denI GD F hd (.ex ce))) := by
  refine ⟨fun pins s σ H R I ⟨ρ, G, sm, h⟩ => ?_⟩
  unfold denI at h
  refine thn (he.run pins s σ H (fun v H1 => ∃ d ds G2 kp, Gd P.K P.T H1 G2 ∧ Held P.K H1 G2 kp d v ∧ isDic d = false ∧ itemsOf d = some ds ∧ ∀ J, Gives P J ds kp H1 G2 → R J H1) I ⟨ρ, G, sm, h.bindS fun x ρ1 H1 G1 _ st1 h1 v rv => ?_⟩) fun v s1 ⟨x, H1, I1, r1, d, ds, G2, kp, g, hh, hn, e, q⟩ => iter_val hK I1 r1 g hh hn e q
  obtain ⟨z, e1, h1⟩ := h1.of
  obtain ⟨G2, st2, hh⟩ := fzH_ok sm st1 rv e1
  split at h1
  · exact h1.elim
  · rename_i hn
    obtain ⟨ds, e2, h1⟩ := h1.of
    exact ⟨z.1, ds, G2, _, st2.sim.gd, hh, Bool.eq_false_iff.mpr hn, e2, (h1.move st2).ok st2.sim⟩
theorem smB_62 {i : Int} (h : smB i = true) : -(2 ^ 62) ≤ i ∧ i < 2 ^ 62 := by
  obtain ⟨h1, h2⟩ := smB_of h
  exact ⟨by omega, by omega⟩
theorem ki_r1 (hg : Gl X "range") (hm : X.mg "range" = none) (ha : PE X a (tE P E (den GD F ca))) (hs : starEach [a] X.env = [(false, eval a X.env)] := by rfl) : PI X tg (.Call (.Name "range" p) [a] [] pos) (tI P E hd (denI GD F hd (.r1 ca))) := by
  refine PI.mono (pi_range1 hg hm (pa_cons ha pa_nil hs) hs) fun σ H R ⟨ρ, G, sm, h⟩ => ?_
  unfold denI at h
  refine ⟨ρ, G, sm, h.bind fun x ρ1 H1 G1 st1 h1 v rv => ?_⟩
  dsimp only at h1
  split at h1
  · rename_i i e
    split at h1
    · rename_i hi
      obtain ⟨b1, b2⟩ := smB_62 hi
      refine ⟨i, by rw [red_int (readv sm st1 rv e)], b1, b2, ?_⟩
      have z := h1.ok st1.sim
      refine z _ ?_
      rw [rng_one, Int.sub_zero]
      exact gives_rng
    · exact h1.elim
  · exact h1.elim
theorem ki_r2 (hg : Gl X "range") (hm : X.mg "range" = none) (ha : PE X a (tE P E (den GD F ca))) (hb : PE X b (tE P E (den GD F cb))) (hs : starEach [a, b] X.env = [(false, eval a X.env), (false, eval b X.env)] := by rfl) (hs2 : starEach [b] X.env = [(false, eval b X.env)] := by rfl)
    (hs3 : starEach [a, b] X.env = (false, eval a X.env) :: starEach [b] X.env := by rfl) : PI X tg (.Call (.Name "range" p) [a, b] [] pos) (tI P E hd (denI GD F hd (.r2 ca cb))) := by
  refine PI.mono (pi_range2 hg hm (pa_cons ha (pa_cons hb pa_nil hs2) hs3) hs hs2) fun σ H R ⟨ρ, G, sm, h⟩ => ?_
  unfold denI at h
  refine ⟨ρ, G, sm, h.bind fun x ρ1 H1 G1 st1 h1 v rv => ⟨ρ1, G1, st1.sim, h1.bind fun y ρ2 H2 G2 st2 h2 u ru => ?_⟩⟩
  dsimp only at h2
  split at h2
  · rename_i i j e e'
    split at h2
    · rename_i hi
      rw [Bool.and_eq_true] at hi
      obtain ⟨b1, b2⟩ := smB_62 hi.1
      obtain ⟨b3, b4⟩ := smB_62 hi.2
      refine ⟨i, j, by rw [red_int (held sm st1 rv st2 e), red_int (readv st1.sim st2 ru e')], ⟨b1, b2, b3, b4⟩, ?_⟩
      have z := h2.ok st2.sim
      refine z _ ?_
      rw [rng_one]
      exact gives_rng
    · exact h2.elim
  · exact h2.elim
end
end Kn

end

section
/-! K, targets; list comprehensions. -/
namespace Kn
open PySem PySem.Spec PyProof.Rows L2

section
variable {K : PySem.W.Frag} {T : List (Addr × Str)} {ρ ρ' ρ1 ρ'' : Env} {σ σ' σ'' : L2.St} {H H' H1 G G' G1 : Hp}
theorem set_at {α : Type} {l : List α} {i j : Nat} {x y : α} (h : (l.set i x)[j]? = some y) : (j = i ∧ y = x) ∨ (j ≠ i ∧ l[j]? = some y) := by
  by_cases e : j = i
  · subst e
    by_cases hl : j < l.length
    · rw [List.getElem?_set_self hl] at h
      exact .inl ⟨rfl, (Option.some.inj h).symm⟩
    · rw [List.getElem?_eq_none (by simpa using hl)] at h
      cases h
  · rw [List.getElem?_set_ne (Ne.symm e)] at h
    exact .inr ⟨e, h⟩
/-- a slot is given data -/
theorem Stp.setI {i : Nat} {d : D} {v : V} (s : Sim K T ρ σ H G) (hi : i < ρ.length) (r : Rep K G d v) : Stp K T ρ σ H G (ρ.set i (some (.imm d))) (σ.set i (some v)) H G := by
  have hi' : i < σ.length := by rw [← s.len]; exact hi
  have ow : ∀ {j e}, IsO (ρ.set i (some (.imm d))) j e → j ≠ i ∧ IsO ρ j e := fun {j e} h => by
    rcases isO_set h with ⟨_, _, z⟩ | h
    · cases z
    · exact h
  have ne : ∀ {j : Nat} {u : V}, j ≠ i → (IsV (σ.set i (some v)) j u ↔ IsV σ j u) := fun {j u} hj => by
    unfold IsV
    rw [List.getElem?_set_ne (Ne.symm hj)]
  refine ⟨⟨by rw [List.length_set, List.length_set]; exact s.len, s.sub, s.gnt, fun j e h => ?_, fun j e h => ?_, fun j k e e' a h h' hv hv' => ?_, s.tabs⟩, Sub.refl G, fun b o h _ _ => h, fun b o _ _ h _ => h, fun b z => ?_, fun b h => h, List.length_set⟩
  · rcases isI_set h with ⟨rfl, _, z⟩ | ⟨hj, h⟩
    · cases z
      exact ⟨v, List.getElem?_set_self hi', r⟩
    · obtain ⟨u, hu, q⟩ := s.imm j e h
      exact ⟨u, (ne hj).mpr hu, q⟩
  · obtain ⟨hj, h⟩ := ow h
    obtain ⟨a, o, hu, q⟩ := s.own j e h
    exact ⟨a, o, (ne hj).mpr hu, q⟩
  · obtain ⟨hj, h⟩ := ow h
    obtain ⟨hk, h'⟩ := ow h'
    exact s.dis j k e e' a h h' ((ne hj).mp hv) ((ne hk).mp hv')
  · obtain ⟨j, e, h, hv⟩ := z
    obtain ⟨hj, h⟩ := ow h
    exact .inl ⟨j, e, h, (ne hj).mp hv⟩
/-- what is own behind it was own -/
theorem setI_ow {i : Nat} {d : D} {v : V} {b : Addr} (h : Ow (ρ.set i (some (.imm d))) (σ.set i (some v)) b) : Ow ρ σ b := by
  obtain ⟨j, e, h, hv⟩ := h
  rcases isO_set h with ⟨_, _, z⟩ | ⟨hj, h⟩
  · cases z
  · refine ⟨j, e, h, ?_⟩
    unfold IsV at hv
    rw [List.getElem?_set_ne (Ne.symm hj)] at hv
    exact hv
mutual
def TG.vars : Kn.TG → List Nat
  | .n i => [i]
  | .t as => TG.varsL as
def TG.varsL : List Kn.TG → List Nat
  | [] => []
  | a :: as => a.vars ++ TG.varsL as
end
/-- behind a target: a step, its slots' alone, no own object more -/
structure TgS (K : PySem.W.Frag) (T : List (Addr × Str)) (vs : List Nat) (ρ : Env) (σ : L2.St) (H G : Hp) (ρ' : Env) (σ' : L2.St) : Prop where
  st : Stp K T ρ σ H G ρ' σ' H G
  out : ∀ i, i ∉ vs → σ'[i]? = σ[i]? ∧ ρ'[i]? = ρ[i]?
  ins : ∀ i, i ∈ vs → ∀ d, ¬ IsO ρ' i d
theorem TgS.ow {vs : List Nat} (t : TgS K T vs ρ σ H G ρ' σ') {b : Addr} (h : Ow ρ' σ' b) : Ow ρ σ b := by
  obtain ⟨j, e, h, hv⟩ := h
  by_cases hj : j ∈ vs
  · exact (t.ins j hj e h).elim
  · obtain ⟨e1, e2⟩ := t.out j hj
    unfold IsO at h
    unfold IsV at hv
    rw [e2] at h
    rw [e1] at hv
    exact ⟨j, e, h, hv⟩
end
def tG (P : Pm) (t : Kn.TG) : L2.TG := fun v σ H Q => ∃ ρ G d ρ', Sim P.K P.T ρ σ H G ∧ Rep P.K G d v ∧ bindT t d ρ = some ρ' ∧ ∀ σ', TgS P.K P.T t.vars ρ σ H G ρ' σ' → Q σ' H
def tGs (P : Pm) (ts : List Kn.TG) : L2.TGs := fun vs σ H Q => ∃ ρ G ds ρ', Sim P.K P.T ρ σ H G ∧ RepL P.K G ds vs ∧ bindTs ts ds ρ = some ρ' ∧ ∀ σ', TgS P.K P.T (Kn.TG.varsL ts) ρ σ H G ρ' σ' → Q σ' H
theorem PG.mono {X : Cx} {e : Expr} {t t' : L2.TG} (h : PG X e t) (m : ∀ v σ H Q, t' v σ H Q → t v σ H Q) : PG X e t' := ⟨fun pins s σ H v u Q I r q => h.run pins s σ H v u Q I r (m v σ H Q q)⟩
theorem PGs.mono {X : Cx} {e : List Expr} {t t' : L2.TGs} (h : PGs X e t) (m : ∀ v σ H Q, t' v σ H Q → t v σ H Q) : PGs X e t' := ⟨fun pins s σ H v u Q I r q => h.run pins s σ H v u Q I r (m v σ H Q q)⟩
section
variable {X : Cx} {P : Pm} {pos : Pos}
theorem kg_n {i : Nat} {x : Str} (hN : X.N.Nodup) (hi : X.N[i]? = some x) (hx : Loc X.env.scope x) (hf : X.fn x = true ∨ X.env.scope.names.lookup x = some .local := by first | exact .inl rfl | exact .inr rfl | assumption) : PG X (.Name x pos) (tG P (.n i)) := by
  refine PG.mono (pg_name hN hi hx hf) fun v σ H Q ⟨ρ, G, d, ρ', s, r, e, q⟩ => ?_
  unfold bindT at e
  split at e
  · rename_i hl
    cases e
    refine q _ ⟨Stp.setI s hl r, fun j hj => ?_, fun j hj d' h => ?_⟩
    · have : i ≠ j := fun z => hj (by simp [Kn.TG.vars, z])
      exact ⟨List.getElem?_set_ne this, List.getElem?_set_ne this⟩
    · have : j = i := by simpa [Kn.TG.vars] using hj
      subst this
      rcases isO_set h with ⟨_, _, z⟩ | ⟨z, _⟩
      · cases z
      · exact z rfl
  · cases e
theorem kgs_nil : PGs X [] (tGs P []) := PGs.mono pgs_nil fun vs σ H Q ⟨ρ, G, ds, ρ', s, r, e, q⟩ => by
  cases ds with
  | cons d ds => simp only [bindTs] at e; cases e
  | nil =>
    simp only [bindTs] at e
    cases e
    simp only [RepL] at r
    exact ⟨r, q σ ⟨.refl s, fun i _ => ⟨rfl, rfl⟩, fun i hi => by simp [Kn.TG.varsL] at hi⟩⟩
theorem kgs_cons {e : Expr} {es : List Expr} {t : Kn.TG} {ts : List Kn.TG} (h1 : PG X e (tG P t)) (h2 : PGs X es (tGs P ts)) (hs : (assignEach (e :: es) X.env).map (·.2) = assign e X.env :: (assignEach es X.env).map (·.2) := by rfl) : PGs X (e :: es) (tGs P (t :: ts)) := by
  refine PGs.mono (pgs_cons h1 h2 hs) fun vs σ H Q ⟨ρ, G, ds, ρ', s, r, e, q⟩ => ?_
  cases ds with
  | nil => simp only [bindTs] at e; cases e
  | cons d ds =>
    simp only [bindTs] at e
    obtain ⟨ρ1, e1, e2⟩ := Option.bind_eq_some_iff.mp e
    obtain ⟨v, rr, ev, r1, r2⟩ := r.uncons
    refine ⟨v, rr, ev, ρ, G, d, ρ1, s, r1, e1, fun σ1 t1 => ⟨ρ1, G, ds, ρ', t1.st.sim, r2, e2, fun σ2 t2 => q σ2 ⟨t1.st.trans t2.st, fun i hi => ?_, fun i hi d' h => ?_⟩⟩⟩
    · simp only [Kn.TG.varsL, List.mem_append, not_or] at hi
      obtain ⟨a1, a2⟩ := t1.out i hi.1
      obtain ⟨b1, b2⟩ := t2.out i hi.2
      exact ⟨b1.trans a1, b2.trans a2⟩
    · by_cases h2 : i ∈ Kn.TG.varsL ts
      · exact t2.ins i h2 d' h
      · simp only [Kn.TG.varsL, List.mem_append] at hi
        refine t1.ins i (hi.resolve_right h2) d' ?_
        unfold IsO at h ⊢
        rw [← (t2.out i h2).2]
        exact h
theorem kg_t {es : List Expr} {k : Nat} {ts : List Kn.TG} (hK : P.K = X.K) (hc : X.calm = true) (h : PGs X es (tGs P ts)) (hn : (assignEach es X.env).length = ts.length := by rfl) (hst : (assignEach es X.env).findIdx? (·.1) = none := by rfl) : PG X (.Tuple es k pos) (tG P (.t ts)) := by
  refine PG.mono (pg_tup (n := ts.length) hc h hn hst) fun v σ H Q ⟨ρ, G, d, ρ', s, r, e, q⟩ => ?_
  obtain ⟨ds, ed, e⟩ : ∃ ds, d = .tup ds ∧ bindTs ts ds ρ = some ρ' := by
    cases d with
    | tup ds => simp only [bindT] at e; exact ⟨ds, rfl, e⟩
    | _ => simp only [bindT] at e; cases e
  subst ed
  have hl : ∀ {ts : List Kn.TG} {ds : List D} {ρ ρ' : Env}, bindTs ts ds ρ = some ρ' → ds.length = ts.length := fun {ts} => by
    induction ts with
    | nil => intro ds ρ ρ' e; cases ds with
      | nil => rfl
      | cons d ds => simp only [bindTs] at e; cases e
    | cons t ts ih => intro ds ρ ρ' e; cases ds with
      | nil => simp only [bindTs] at e; cases e
      | cons d ds =>
        simp only [bindTs] at e
        obtain ⟨ρ1, e1, e2⟩ := Option.bind_eq_some_iff.mp e
        rw [List.length_cons, List.length_cons, ih e2]
  simp only [Rep] at r
  obtain ⟨a, vs, ev, g, rl⟩ := r
  subst ev
  rw [← hK]
  exact ⟨a, vs, rfl, s.sub.sqT g, by rw [rl.length, hl e], ρ, G, ds, ρ', s, rl, e, q⟩
end
end Kn

end

section
/-! K, list comprehensions. -/
namespace Kn
open PySem PySem.Spec PyProof.Rows L2

section
theorem wipe_len (ρ : Env) : ∀ vs : List Nat, (Kn.wipe ρ vs).length = ρ.length
  | [] => rfl
  | v :: vs => by unfold Kn.wipe; rw [List.length_set, wipe_len ρ vs]
theorem wipe_get (ρ : Env) (i : Nat) : ∀ vs : List Nat, (Kn.wipe ρ vs)[i]? = if i ∈ vs then (if i < ρ.length then some none else none) else ρ[i]?
  | [] => by simp [Kn.wipe]
  | v :: vs => by
    unfold Kn.wipe
    by_cases hi : v = i
    · subst hi
      rw [if_pos (List.mem_cons_self ..)]
      by_cases hl : v < ρ.length
      · rw [List.getElem?_set_self (by rw [wipe_len]; exact hl), if_pos hl]
      · rw [List.getElem?_eq_none (by rw [List.length_set, wipe_len]; omega), if_neg hl]
    · rw [List.getElem?_set_ne hi, wipe_get ρ i vs]
      by_cases hm : i ∈ vs
      · rw [if_pos hm, if_pos (List.mem_cons_of_mem _ hm)]
      · rw [if_neg hm, if_neg fun z => (List.mem_cons.mp z).elim (fun e => hi e.symm) hm]
theorem wipe_getS (σ : L2.St) (i : Nat) : ∀ vs : List Nat, (L2.wipe σ vs)[i]? = if i ∈ vs then (if i < σ.length then some none else none) else σ[i]?
  | [] => by simp [L2.wipe]
  | v :: vs => by
    unfold L2.wipe
    by_cases hi : v = i
    · subst hi
      rw [if_pos (List.mem_cons_self ..)]
      by_cases hl : v < σ.length
      · rw [List.getElem?_set_self (by rw [L2.wipe_length]; exact hl), if_pos hl]
      · rw [List.getElem?_eq_none (by rw [List.length_set, L2.wipe_length]; omega), if_neg hl]
    · rw [List.getElem?_set_ne hi, wipe_getS σ i vs]
      by_cases hm : i ∈ vs
      · rw [if_pos hm, if_pos (List.mem_cons_of_mem _ hm)]
      · rw [if_neg hm, if_neg fun z => (List.mem_cons.mp z).elim (fun e => hi e.symm) hm]
theorem unwipe_get (ρ₀ ρ : Env) (hl : ρ.length = ρ₀.length) (i : Nat) : ∀ vs : List Nat, (Kn.unwipe ρ₀ ρ vs)[i]? = if i ∈ vs then ρ₀[i]? else ρ[i]?
  | [] => by simp [Kn.unwipe]
  | v :: vs => by
    have ll : ∀ vs : List Nat, (Kn.unwipe ρ₀ ρ vs).length = ρ.length := fun vs => by
      induction vs with
      | nil => rfl
      | cons v vs ih => unfold Kn.unwipe; rw [List.length_set, ih]
    unfold Kn.unwipe
    by_cases hi : v = i
    · subst hi
      rw [if_pos (List.mem_cons_self ..)]
      by_cases hv : v < ρ₀.length
      · rw [List.getElem?_set_self (by rw [ll, hl]; exact hv), List.getElem?_eq_getElem hv]
        rfl
      · rw [List.getElem?_eq_none (by rw [List.length_set, ll]; omega), List.getElem?_eq_none (by omega)]
    · rw [List.getElem?_set_ne hi, unwipe_get ρ₀ ρ hl i vs]
      by_cases hm : i ∈ vs
      · rw [if_pos hm, if_pos (List.mem_cons_of_mem _ hm)]
      · rw [if_neg hm, if_neg fun z => (List.mem_cons.mp z).elim (fun e => hi e.symm) hm]
theorem unwipe_len (ρ₀ ρ : Env) : ∀ vs : List Nat, (Kn.unwipe ρ₀ ρ vs).length = ρ.length
  | [] => rfl
  | v :: vs => by unfold Kn.unwipe; rw [List.length_set, unwipe_len ρ₀ ρ vs]
theorem isO_wipe {ρ : Env} {vs : List Nat} {i : Nat} {d : D} : IsO (Kn.wipe ρ vs) i d ↔ i ∉ vs ∧ IsO ρ i d := by
  unfold IsO
  rw [wipe_get]
  by_cases h : i ∈ vs
  · rw [if_pos h]
    constructor
    · intro z; split at z <;> cases z
    · intro z; exact (z.1 h).elim
  · rw [if_neg h]
    exact ⟨fun z => ⟨h, z⟩, fun z => z.2⟩
theorem isI_wipe {ρ : Env} {vs : List Nat} {i : Nat} {d : D} : IsI (Kn.wipe ρ vs) i d ↔ i ∉ vs ∧ IsI ρ i d := by
  unfold IsI
  rw [wipe_get]
  by_cases h : i ∈ vs
  · rw [if_pos h]
    constructor
    · intro z; split at z <;> cases z
    · intro z; exact (z.1 h).elim
  · rw [if_neg h]
    exact ⟨fun z => ⟨h, z⟩, fun z => z.2⟩
theorem isV_wipe {σ : L2.St} {vs : List Nat} {i : Nat} {v : V} (h : i ∉ vs) : IsV (L2.wipe σ vs) i v ↔ IsV σ i v := by
  unfold IsV
  rw [wipe_getS, if_neg h]
theorem wipe_eqS {σ σ' : L2.St} {vs : List Nat} (hl : σ'.length = σ.length) (h : ∀ i, i ∉ vs → σ'[i]? = σ[i]?) : L2.wipe σ' vs = L2.wipe σ vs := by
  apply List.ext_getElem?
  intro i
  rw [wipe_getS, wipe_getS, hl]
  by_cases hi : i ∈ vs
  · rw [if_pos hi, if_pos hi]
  · rw [if_neg hi, if_neg hi, h i hi]
end
section
variable {K : PySem.W.Frag} {T : List (Addr × Str)} {ρ ρ' ρ1 ρ2 ρ5 ρ'' : Env} {σ σ' σ2 σw : L2.St} {H H' H1 H4 G G' G1 G5 : Hp} {own vs : List Nat}
/-- fewer slots -/
theorem Sim.wipe (s : Sim K T ρ σ H G) (own : List Nat) : Sim K T (Kn.wipe ρ own) σ H G :=
  ⟨by rw [wipe_len]; exact s.len, s.sub, s.gnt, fun i d h => s.imm i d (isI_wipe.mp h).2, fun i d h => s.own i d (isO_wipe.mp h).2, fun i j d e a h h' => s.dis i j d e a (isO_wipe.mp h).2 (isO_wipe.mp h').2, s.tabs⟩
/-- other values at slots that are out of sight -/
theorem Sim.sig (s : Sim K T ρ σ H G) (hl : σ'.length = σ.length) (h : ∀ i, i ∉ own → σ'[i]? = σ[i]?) : Sim K T (Kn.wipe ρ own) σ' H G := by
  have iv : ∀ {i : Nat} {v : V}, i ∉ own → (IsV σ' i v ↔ IsV σ i v) := fun {i v} hi => by unfold IsV; rw [h i hi]
  refine ⟨by rw [wipe_len, hl]; exact s.len, s.sub, s.gnt, fun i d q => ?_, fun i d q => ?_, fun i j d e a q q' e1 e2 => ?_, s.tabs⟩
  · obtain ⟨hi, q⟩ := isI_wipe.mp q
    obtain ⟨v, e, r⟩ := s.imm i d q
    exact ⟨v, (iv hi).mpr e, r⟩
  · obtain ⟨hi, q⟩ := isO_wipe.mp q
    obtain ⟨a, o, e, r⟩ := s.own i d q
    exact ⟨a, o, (iv hi).mpr e, r⟩
  · obtain ⟨hi, q⟩ := isO_wipe.mp q
    obtain ⟨hj, q'⟩ := isO_wipe.mp q'
    exact s.dis i j d e a q q' ((iv hi).mp e1) ((iv hj).mp e2)
/-- a block's turn, back to the block's beginning -/
theorem blk_back {ρk ρw : Env} {H0 G0 : Hp} (a : StE K T σw ρw H0 G0 (Kn.wipe ρk own) H' G') (t : TgS K T vs (Kn.wipe ρk own) σw H' G' ρ2 σ2) (e : StE K T σ2 ρ2 H' G' ρ5 H4 G5) (hs : ∀ i, i ∈ vs → i ∈ own) : StE K T σw ρw H0 G0 (Kn.wipe ρ5 own) H4 G5 := by
  have st : Stp K T ρw σw H0 G0 ρ5 σ2 H4 G5 := (a.st.trans t.st).trans e.st
  have out : ∀ i, i ∉ own → σw[i]? = σ2[i]? := fun i hi => (t.out i fun z => hi (hs i z)).1.symm
  have hl : σw.length = σ2.length := by rw [← t.st.sim.len, ← a.sim.len, t.st.len]
  have owe : ∀ i d, IsO (Kn.wipe ρ5 own) i d → ∃ e, IsO ρw i e := fun i d q => by
    obtain ⟨hi, q⟩ := isO_wipe.mp q
    obtain ⟨d1, q1⟩ := e.owe i d q
    have q2 : IsO (Kn.wipe ρk own) i d1 := by
      unfold IsO at q1 ⊢
      rw [← (t.out i fun z => hi (hs i z)).2]
      exact q1
    exact a.owe i d1 q2
  refine ⟨⟨st.sim.sig hl out, st.sub, st.frame, st.gfr, fun b z => ?_, st.mono, by rw [wipe_len]; exact st.len⟩, owe⟩
  obtain ⟨i, d, q, hv⟩ := z
  obtain ⟨d', q'⟩ := owe i d q
  exact .inl ⟨i, d', q', hv⟩
/-- an object that was not there at the beginning is written -/
theorem StE.put {H0 G0 : Hp} {D : Addr} {o : HO} (s0 : Sim K T ρ σ H0 G0) (a : StE K T σ ρ H0 G0 ρ' H G) (h0 : H0 D = none) (hg : G D = none) (hm : nt o) (ht : ∀ ps, H D ≠ some (.tbl ps)) (hc : ∀ q, H D ≠ some (LamX.CodeO D q)) : StE K T σ ρ H0 G0 ρ' (upd H D o) G := by
  have ne : ∀ b u, H0 b = some u → b ≠ D := fun b u q => ne_of_none q h0
  have now : ∀ b, Ow ρ' σ b → b ≠ D := fun b z => by
    obtain ⟨u, q, _⟩ := Ow.ne s0 (a.ow z)
    exact ne b u q
  refine ⟨⟨⟨a.sim.len, fun b u q => ?_, a.sim.gnt, a.sim.imm, fun i d q => ?_, a.sim.dis, ?_⟩, a.st.sub, fun b u q n w => ?_, a.st.gfr, a.st.own, fun b q => ?_, a.st.len⟩, a.owe⟩
  · have nb : b ≠ D := ne_of_none q hg
    rw [upd_ne nb]
    exact a.sim.sub b u q
  · obtain ⟨l, u, e, g, hl, w⟩ := a.sim.own i d q
    refine ⟨l, u, e, g, ?_, w⟩
    rw [upd_ne (now l ⟨i, d, q, e⟩)]
    exact hl
  · intro p hp
    obtain ⟨ps, h1, h2, h3⟩ := a.sim.tabs p hp
    have np : p.1 ≠ D := fun z => ht ps (by rw [← z]; exact h1)
    refine ⟨ps, by rw [upd_ne np]; exact h1, h2, fun pos cv q => ?_⟩
    obtain ⟨c, e1, e2⟩ := h3 pos cv q
    refine ⟨c, e1, ?_⟩
    rw [upd_ne (fun z => hc p.2 (by rw [← z]; exact e2))]
    exact e2
  · rw [upd_ne (ne b u q)]
    exact a.st.frame b u q n w
  · obtain ⟨u', e', n'⟩ := a.st.mono b q
    obtain ⟨u, e, _⟩ := q
    exact ⟨u', by rw [upd_ne (ne b u e)]; exact e', n'⟩
/-- behind the block -/
theorem blk_out {ρe : Env} {He Ge : Hp} (s : Sim K T ρ1 σ H1 G1) (a : StE K T (L2.wipe σ vs) (Kn.wipe ρ1 own) H1 G1 (Kn.wipe ρe own) He Ge) (hs : ∀ i, i ∈ vs → i ∈ own) : StE K T σ ρ1 H1 G1 (Kn.unwipe ρ1 ρe own) He Ge := by
  have hl : ρe.length = ρ1.length := by have := a.st.len; rw [wipe_len, wipe_len] at this; exact this
  have iv : ∀ {i : Nat} {v : V}, i ∉ own → (IsV (L2.wipe σ vs) i v ↔ IsV σ i v) := fun {i v} hi => isV_wipe fun z => hi (hs i z)
  have ow0 : ∀ {b : Addr}, Ow (Kn.wipe ρ1 own) (L2.wipe σ vs) b → ∃ i d, i ∉ own ∧ IsO ρ1 i d ∧ IsV σ i (.ref b) := fun {b} z => by
    obtain ⟨i, d, q, hv⟩ := z
    obtain ⟨hi, q⟩ := isO_wipe.mp q
    exact ⟨i, d, hi, q, (iv hi).mp hv⟩
  have atI : ∀ {i : Nat} {d : D}, IsI (Kn.unwipe ρ1 ρe own) i d → (i ∈ own ∧ IsI ρ1 i d) ∨ (i ∉ own ∧ IsI ρe i d) := fun {i d} q => by
    unfold IsI at q
    rw [unwipe_get ρ1 ρe hl] at q
    by_cases hi : i ∈ own
    · rw [if_pos hi] at q; exact .inl ⟨hi, q⟩
    · rw [if_neg hi] at q; exact .inr ⟨hi, q⟩
  have atO : ∀ {i : Nat} {d : D}, IsO (Kn.unwipe ρ1 ρe own) i d → (i ∈ own ∧ IsO ρ1 i d) ∨ (i ∉ own ∧ IsO ρe i d) := fun {i d} q => by
    unfold IsO at q
    rw [unwipe_get ρ1 ρe hl] at q
    by_cases hi : i ∈ own
    · rw [if_pos hi] at q; exact .inl ⟨hi, q⟩
    · rw [if_neg hi] at q; exact .inr ⟨hi, q⟩
  have owe : ∀ i d, IsO (Kn.unwipe ρ1 ρe own) i d → ∃ e, IsO ρ1 i e := fun i d q => by
    rcases atO q with ⟨hi, q⟩ | ⟨hi, q⟩
    · exact ⟨d, q⟩
    · obtain ⟨e, z⟩ := a.owe i d (isO_wipe.mpr ⟨hi, q⟩)
      exact ⟨e, (isO_wipe.mp z).2⟩
  refine ⟨⟨⟨by rw [unwipe_len, hl]; exact s.len, a.sim.sub, a.sim.gnt, fun i d q => ?_, fun i d q => ?_, fun i j d e b q q' e1 e2 => ?_, a.sim.tabs⟩, a.st.sub, fun b u q n w => ?_, fun b u q m g w => ?_, fun b z => ?_, a.st.mono, by rw [unwipe_len, hl]⟩, owe⟩
  · rcases atI q with ⟨hi, q⟩ | ⟨hi, q⟩
    · obtain ⟨v, e, r⟩ := s.imm i d q
      exact ⟨v, e, Rep.sub a.st.sub _ r⟩
    · obtain ⟨v, e, r⟩ := a.sim.imm i d (isI_wipe.mpr ⟨hi, q⟩)
      exact ⟨v, (iv hi).mp e, r⟩
  · rcases atO q with ⟨hi, q⟩ | ⟨hi, q⟩
    · obtain ⟨b, u, e, g, hb, w⟩ := s.own i d q
      have nw : ¬ Ow (Kn.wipe ρ1 own) (L2.wipe σ vs) b := fun z => by
        obtain ⟨j, d', hj, q', hv⟩ := ow0 z
        exact hj (by rw [← s.dis i j d d' b q q' e hv]; exact hi)
      exact ⟨b, u, e, a.st.gfr b u hb w.mut g nw, a.st.frame b u hb (nt_mut w.mut) nw, w.sub a.st.sub⟩
    · obtain ⟨b, u, e, r⟩ := a.sim.own i d (isO_wipe.mpr ⟨hi, q⟩)
      exact ⟨b, u, (iv hi).mp e, r⟩
  · obtain ⟨d1, q1⟩ := owe i d q
    obtain ⟨d2, q2⟩ := owe j e q'
    exact s.dis i j d1 d2 b q1 q2 e1 e2
  · exact a.st.frame b u q n fun z => w (by obtain ⟨j, d', hj, q', hv⟩ := ow0 z; exact ⟨j, d', q', hv⟩)
  · exact a.st.gfr b u q m g fun z => w (by obtain ⟨j, d', hj, q', hv⟩ := ow0 z; exact ⟨j, d', q', hv⟩)
  · obtain ⟨i, d, q, hv⟩ := z
    obtain ⟨d1, q1⟩ := owe i d q
    exact .inl ⟨i, d1, q1, hv⟩
theorem lcLoop_cons {turn : D → Env → R (Option D × Env)} {d : D} {ds : List D} {ρ : Env} {acc : List D} {r : List D × Env} (h : lcLoop turn (d :: ds) ρ acc = .ok r) :
    ∃ p, turn d ρ = .ok p ∧ lcLoop turn ds p.2 (match p.1 with
      | some y => acc ++ [y]
      | none => acc) = .ok r := by
  unfold lcLoop at h
  cases q : turn d ρ with
  | ok p =>
    rw [q] at h
    refine ⟨p, rfl, ?_⟩
    obtain ⟨o, ρ'⟩ := p
    cases o <;> exact h
  | exc c p => rw [q] at h; cases h
  | bad => rw [q] at h; cases h
end
section
variable {X : Cx} {P : Pm} {E : XK} {GD : Nat → D} {F : Nat → Fn} {pos : Pos} {tg iter elt : Expr} {ifs : List Expr} {ce : CE} {cs : CI} {co : CO} {t : Kn.TG} {own : List Nat} {scope : Scope} {ow : List (Str × Nat)}
theorem PTs.mono {X : Cx} {e : List Expr} {t t' : TT} (h : PTs X e t) (m : ∀ σ H Q, t' σ H Q → t σ H Q) : PTs X e t' := ⟨fun pins s σ H Q I q => h.run pins s σ H Q I (m σ H Q q)⟩
theorem kts_no : PTs X [] (tB P E (denT GD F .no)) := PTs.mono pts_nil fun σ H Q ⟨ρ, G, s, h⟩ => by
  unfold denT at h
  exact h.ok s
theorem kts_so {c : Expr} {cc : CE} (h : PT X c (tB P E (denB GD F cc))) : PTs X [c] (tB P E (denT GD F (.so cc))) := PTs.mono (pts_one h) fun σ H Q ⟨ρ, G, s, h⟩ => by
  unfold denT at h
  exact ⟨ρ, G, s, h⟩
theorem lc_main {tt : TT} {te : TE} {g : L2.TG} {wi : TI} (hvo : ∀ i, i ∈ ow.map (·.2) → i ∈ own) (hto : ∀ i, i ∈ t.vars → i ∈ ow.map (·.2)) :
    ∀ σ H Q, tE P E (den GD F (.lc own t cs co ce)) σ H Q → tLc (tI P E own (denI GD F own cs)) (tG P t) (tB P E0 (denT GD F co)) (tE P E0 (den GD F ce)) (ow.map (·.2)) σ H Q := by
  intro σ H Q ⟨ρ, G, s, h⟩
  unfold den at h
  refine ⟨ρ, G, s, h.bind fun ds ρ1 H1 G1 st1 h1 J gv D hD => ?_⟩
  dsimp only at h1
  split at h1
  · rename_i hlen
    generalize hturn : (fun d ρ₁ => (R.of (bindT t d (Kn.wipe ρ₁ own))).bind fun ρ₂ => (denT GD F co ρ₂).bind fun b =>
      if b.1 = true then (den GD F ce b.2).bind fun y => (R.of (fz y.2 y.1)).bind fun z => R.ok (some z.1, z.2) else R.ok ((none : Option Kn.D), b.2)) = turn at h1
    cases hr : lcLoop turn ds (Kn.wipe ρ1 own) [] with
    | bad => rw [hr] at h1; exact h1.elim
    | exc c p => rw [hr] at h1; exact h1.elim
    | ok r =>
      rw [hr] at h1
      have h1 : EndX P E σ ρ1 H1 G1 (OkE P σ H Q) (.ok (.tmp (.lst r.1), Kn.unwipe ρ1 r.2 own)) := h1
      have hvo' : ∀ i, i ∈ t.vars → i ∈ own := fun i hi => hvo i (hto i hi)
      have simW : Sim P.K P.T (Kn.wipe ρ1 own) (L2.wipe σ (ow.map (·.2))) H1 G1 := st1.sim.sig (L2.wipe_length _ _) fun i hi => by rw [wipe_getS, if_neg fun z => hi (hvo i z)]
      have idem : ∀ ρ : Env, Kn.wipe (Kn.wipe ρ own) own = Kn.wipe ρ own := fun ρ => by
        apply List.ext_getElem?
        intro i
        rw [wipe_get, wipe_get, wipe_len]
        by_cases hi : i ∈ own
        · rw [if_pos hi, if_pos hi]
        · rw [if_neg hi, if_neg hi]
      have keep : ∀ {ρ' H' G'}, StE P.K P.T (L2.wipe σ (ow.map (·.2))) (Kn.wipe ρ1 own) H1 G1 ρ' H' G' → ∀ b o, kpOf ρ1 σ own b → H1 b = some o → H' b = some o := fun {ρ' H' G'} a b o ⟨i, d, hi, q, hv⟩ hb => by
        obtain ⟨b', o', e, g, hb', w⟩ := st1.sim.own i d q
        cases hv.inj e
        rw [hb] at hb'
        cases hb'
        refine a.st.frame b o hb (nt_mut w.mut) fun z => ?_
        obtain ⟨j, d', q', hv'⟩ := z
        obtain ⟨hj, q'⟩ := isO_wipe.mp q'
        exact hj (by rw [← st1.sim.dis i j d d' b q q' hv ((isV_wipe fun z => hj (hvo j z)).mp hv')]; exact hi)
      have st0 : StE P.K P.T (L2.wipe σ (ow.map (·.2))) (Kn.wipe ρ1 own) H1 G1 (Kn.wipe ρ1 own) (upd H1 D (.lst [])) G1 := (Cst.new simW.gd hD).ste simW
      have hD0 : ¬ Live H D := fun z => not_live hD (st1.st.mono D z)
      refine ⟨fun i m H' => i + m = ds.length ∧ ∃ ρk Gk acc accV, StE P.K P.T (L2.wipe σ (ow.map (·.2))) (Kn.wipe ρ1 own) H1 G1 (Kn.wipe ρk own) H' Gk ∧ H' D = some (.lst accV) ∧ Gk D = none ∧ RepL P.K Gk acc accV ∧ acc.length ≤ i ∧ lcLoop turn (ds.drop i) ρk acc = .ok r, ⟨ds.length, ?_⟩, fun i m H' hW => ?_⟩
      · refine ⟨by omega, Kn.wipe ρ1 own, G1, [], [], ?_, upd_same, gnone st1.sim.sub hD, RepL.nil, Nat.zero_le _, by simpa using hr⟩
        rw [idem]
        exact st0
      · obtain ⟨hm, ρk, Gk, acc, accV, a, hDl, hGD, ra, hal, hl⟩ := hW
        by_cases hi : i < ds.length
        · right
          refine ⟨gv.go i H' Gk hi a.st.sub a.sim.sub (keep a), fun H' => (i + 1) + (m - 1) = ds.length ∧ ∃ ρk Gk acc accV, StE P.K P.T (L2.wipe σ (ow.map (·.2))) (Kn.wipe ρ1 own) H1 G1 (Kn.wipe ρk own) H' Gk ∧ H' D = some (.lst accV) ∧ Gk D = none ∧ RepL P.K Gk acc accV ∧ acc.length ≤ i + 1 ∧ lcLoop turn (ds.drop (i + 1)) ρk acc = .ok r, fun H'' z => ⟨m - 1, by omega, z⟩, fun x H'' y => ?_⟩
          have hdi : ds[i]? = some ds[i] := List.getElem?_eq_getElem hi
          obtain ⟨G', c, rx⟩ := gv.yld i _ H' Gk x H'' hdi a.st.sub a.sim.gd (keep a) y
          have a2 := a.trans (c.ste a.sim)
          rw [List.drop_eq_getElem_cons hi] at hl
          obtain ⟨p, hp, hl⟩ := lcLoop_cons hl
          rw [← hturn] at hp
          dsimp only at hp
          cases hb : bindT t ds[i] (Kn.wipe ρk own) with
          | none => rw [hb] at hp; cases hp
          | some ρ2 =>
            rw [hb] at hp
            refine ⟨Kn.wipe ρk own, G', _, ρ2, a2.sim, rx, hb, fun σ2 tgs => ⟨?_, ρ2, G', tgs.st.sim, ?_⟩⟩
            · refine wipe_eqS ?_ fun j hj => ?_
              · have := tgs.st.sim.len
                have := a2.sim.len
                have := tgs.st.len
                rw [L2.wipe_length] at *
                omega
              · rw [(tgs.out j fun z => hj (hto j z)).1, wipe_getS, if_neg hj]
            · have hp : (denT GD F co ρ2).bind (fun b => if b.1 = true then (den GD F ce b.2).bind fun y => (R.of (fz y.2 y.1)).bind fun z => R.ok (some z.1, z.2) else R.ok ((none : Option Kn.D), b.2)) = .ok p := hp
              have nD : ∀ {ρ' H' G'}, StE P.K P.T σ2 ρ2 H'' G' ρ' H' G' → True := fun _ => trivial
              have hDc : H'' D = some (.lst accV) := c.frame D _ hDl fun ps z => by cases z
              have notOw : ¬ Ow ρ2 σ2 D := fun z => by
                obtain ⟨o, q, _⟩ := Ow.ne simW (a2.ow (tgs.ow z))
                rw [hD] at q
                cases q
              have hGc : G' D = none := c.gfr D _ hDl trivial hGD
              cases hd : denT GD F co ρ2 with
              | bad => rw [hd] at hp; cases hp
              | exc c p => rw [hd] at hp; cases hp
              | ok b =>
                rw [hd] at hp
                have hp : (if b.1 = true then (den GD F ce b.2).bind fun y => (R.of (fz y.2 y.1)).bind fun z => R.ok (some z.1, z.2) else R.ok ((none : Option Kn.D), b.2)) = .ok p := hp
                intro H3 G3 st3
                show if b.1 = true then _ else _
                split at hp
                · rename_i hbt
                  rw [if_pos hbt]
                  refine ⟨b.2, G3, st3.sim, ?_⟩
                  cases he : den GD F ce b.2 with
                  | bad => rw [he] at hp; cases hp
                  | exc c p => rw [he] at hp; cases hp
                  | ok y =>
                    rw [he] at hp
                    have hp : (R.of (fz y.2 y.1)).bind (fun z => R.ok (some z.1, z.2)) = .ok p := hp
                    intro H4 G4 st4 v rv
                    cases hz : fz y.2 y.1 with
                    | none => rw [hz] at hp; cases hp
                    | some z =>
                      rw [hz] at hp
                      cases hp
                      obtain ⟨G5, st5, r5, sub5⟩ := fz_ok st3.sim st4 rv hz
                      have stE := st3.trans st5
                      have h4D : H4 D = some (.lst accV) := stE.st.frame D _ hDc (fun ps z => by cases z) notOw
                      have g5D : G5 D = none := stE.st.gfr D _ hDc trivial hGc notOw
                      have back := blk_back a2 tgs stE hvo'
                      refine ⟨accV, h4D, ?_, by omega, z.2, G5, acc ++ [z.1], accV ++ [v], ?_, upd_same, g5D, ?_, by simp; omega, hl⟩
                      · rw [ra.length, sizeLine_eq]
                        have : ds.length ≤ 16777216 := hlen
                        omega
                      · refine back.put simW hD g5D (fun ps z => by cases z) (fun ps z => by rw [h4D] at z; cases z) (fun q z => by rw [h4D] at z; cases z)
                      · exact (RepL.sub (c.sub.trans (stE.st.sub)) _ ra).append (.cons r5 .nil)
                · rename_i hbt
                  cases hp
                  rw [if_neg hbt]
                  have back := blk_back a2 tgs st3 hvo'
                  exact ⟨by omega, b.2, G3, acc, accV, back, st3.st.frame D _ hDc (fun ps z => by cases z) notOw, st3.st.gfr D _ hDc trivial hGc notOw, RepL.sub (c.sub.trans st3.st.sub) _ ra, by omega, hl⟩
        · left
          have hi' : i = ds.length := by omega
          subst hi'
          refine ⟨gv.stop H' Gk a.st.sub a.sim.sub (keep a), ?_⟩
          rw [List.drop_length] at hl
          cases hl
          have out := blk_out st1.sim a hvo
          exact h1 H' Gk out _ ⟨D, _, rfl, hDl, hGD, ⟨accV, rfl, ra⟩, hD0⟩
  · exact h1.elim
theorem ke_lc (hc : X.calm = true) (hN : X.N.Nodup) (hi : PI X tg iter (tI P E own (denI GD F own cs))) (ok : BlkOk X.N X.env.scope scope ow)
    (hg : ∀ (s : Shared) (H : Hp) (C : Addr) (cl : List (Str × Addr)) (fp : List Addr), PG (X.blk s H scope (compEnvC scope cl C X.env) fp) tg (tG P t)) (ht : ∀ (s : Shared) (H : Hp) (C : Addr) (cl : List (Str × Addr)) (fp : List Addr), PTs (X.blk s H scope (compEnvC scope cl C X.env) fp) ifs (tB P E0 (denT GD F co)))
    (he : ∀ (s : Shared) (H : Hp) (C : Addr) (cl : List (Str × Addr)) (fp : List Addr), PE (X.blk s H scope (compEnvC scope cl C X.env) fp) elt (tE P E0 (den GD F ce))) (hvo : ∀ i, i ∈ ow.map (·.2) → i ∈ own := by decide) (hto : ∀ i, i ∈ t.vars → i ∈ ow.map (·.2) := by decide)
    (hs : ∀ x, foldedSetIterable iter X.env x = pure x := by intro _; rfl) : PE X (.ListComp elt [⟨tg, iter, ifs, 0⟩] scope pos) (tE P E (den GD F (.lc own t cs co ce))) :=
  PE.mono (pe_lc hc hN hi ok hg ht he hs) (lc_main (tt := tYes) (te := tC .non) (g := gName 0) (wi := tI P E own (denI GD F own cs)) hvo hto)
end
end Kn

end

section
/-! K, statements. -/
namespace Kn
open PySem PySem.Spec PyProof.Rows L2

/-- a step of statements; z: slot 0 keeps its value -/
structure StZ (K : PySem.W.Frag) (T : List (Addr × Str)) (z : Bool) (ρ : Env) (σ : L2.St) (H G : Hp) (ρ' : Env) (σ' : L2.St) (H' G' : Hp) : Prop where
  st : Stp K T ρ σ H G ρ' σ' H' G'
  zero : z = true → σ'[(0 : Nat)]? = σ[(0 : Nat)]?
/-- what is handed back -/
def RetOk (K : PySem.W.Frag) (ρ : Env) (σ : L2.St) (H : Hp) (ρ' : Env) (σ' : L2.St) (H' G' : Hp) (fr : Bool) (d : D) (v : V) : Prop :=
  if fr = true then ∃ a o, v = .ref a ∧ H' a = some o ∧ G' a = none ∧ OwnO K G' d o ∧ (Ow ρ σ a ∨ ¬ Live H a) ∧ ¬ Ow ρ' σ' a else Rep K G' d v
def EndS (P : Pm) (E : XK) (z : Bool) (σ : L2.St) (ρ : Env) (H G : Hp) (D : Ends) : R FR → Prop
  | .ok (.nx ρ') => ∀ σ' H' G', StZ P.K P.T z ρ σ H G ρ' σ' H' G' → D.nx σ' H'
  | .ok (.bk ρ') => ∀ σ' H' G', StZ P.K P.T z ρ σ H G ρ' σ' H' G' → D.bk σ' H'
  | .ok (.ct ρ') => ∀ σ' H' G', StZ P.K P.T z ρ σ H G ρ' σ' H' G' → D.ct σ' H'
  | .ok (.rt fr d ρ') => ∀ v σ' H' G', StZ P.K P.T z ρ σ H G ρ' σ' H' G' → RetOk P.K ρ σ H ρ' σ' H' G' fr d v → D.rt v H'
  | .exc c p => ∀ cls dd H', XSt P σ ρ H H' → P.XC c p cls dd H' → E cls dd H'
  | .bad => False
section
variable {P : Pm} {E : XK} {z : Bool} {ρ ρ' ρ1 ρ'' : Env} {σ σ' σ1 σ'' : L2.St} {H H' H1 H'' G G' G1 G'' : Hp} {α : Type} {D : Ends}
theorem StZ.refl {K : PySem.W.Frag} {T : List (Addr × Str)} (s : Sim K T ρ σ H G) : StZ K T z ρ σ H G ρ σ H G := ⟨.refl s, fun _ => rfl⟩
theorem StZ.trans {K : PySem.W.Frag} {T : List (Addr × Str)} (a : StZ K T z ρ σ H G ρ' σ' H' G') (b : StZ K T z ρ' σ' H' G' ρ'' σ'' H'' G'') : StZ K T z ρ σ H G ρ'' σ'' H'' G'' :=
  ⟨a.st.trans b.st, fun h => (b.zero h).trans (a.zero h)⟩
theorem StE.toZ {K : PySem.W.Frag} {T : List (Addr × Str)} (a : StE K T σ ρ H G ρ' H' G') : StZ K T z ρ σ H G ρ' σ H' G' := ⟨a.st, fun _ => rfl⟩
theorem XSt.afterS (a : Stp P.K P.T ρ σ H G ρ1 σ1 H1 G1) (x : XSt P σ1 ρ1 H1 H'') : XSt P σ ρ H H'' :=
  ⟨fun b o h n w => x.frame b o (a.frame b o h n w) n fun y => (a.own b y).elim w (fun e => e ⟨o, h, n⟩), fun b h => x.mono b (a.mono b h), x.tabs⟩
theorem RetOk.move {K : PySem.W.Frag} {T : List (Addr × Str)} {fr : Bool} {d : Kn.D} {v : V} (a : Stp K T ρ σ H G ρ1 σ1 H1 G1) (h : RetOk K ρ1 σ1 H1 ρ' σ' H' G' fr d v) : RetOk K ρ σ H ρ' σ' H' G' fr d v := by
  unfold RetOk at h ⊢
  split at h
  · rename_i hf
    rw [if_pos hf]
    obtain ⟨b, o, e, h1, g, w, x, n⟩ := h
    refine ⟨b, o, e, h1, g, w, ?_, n⟩
    rcases x with x | x
    · exact a.own b x
    · exact .inr fun z => x (a.mono b z)
  · rename_i hf
    rw [if_neg hf]
    exact h
theorem EndS.move {r : R FR} (a : StZ P.K P.T z ρ σ H G ρ1 σ1 H1 G1) (h : EndS P E z σ ρ H G D r) : EndS P E z σ1 ρ1 H1 G1 D r := by
  cases r with
  | ok f =>
    cases f with
    | nx ρ' => exact fun σ' H' G' s => h σ' H' G' (a.trans s)
    | bk ρ' => exact fun σ' H' G' s => h σ' H' G' (a.trans s)
    | ct ρ' => exact fun σ' H' G' s => h σ' H' G' (a.trans s)
    | rt fr d ρ' => exact fun v σ' H' G' s q => h v σ' H' G' (a.trans s) (RetOk.move a.st q)
  | exc c p => exact fun cls dd H' x q => h cls dd H' (x.afterS a.st) q
  | bad => exact h
theorem EndS.bindX {x : R (α × Env)} {k : α × Env → R FR} {Ok : α → Env → Hp → Hp → Prop} (h : EndS P E z σ ρ H G D (x.bind k))
    (hk : ∀ a ρ1 H1 G1, StE P.K P.T σ ρ H G ρ1 H1 G1 → EndS P E z σ ρ H G D (k (a, ρ1)) → Ok a ρ1 H1 G1) : EndX P E σ ρ H G Ok x := by
  cases x with
  | ok a => exact fun H' G' st => hk _ _ _ _ st h
  | exc c p => exact h
  | bad => exact h
theorem EndS.of {o : Option α} {k : α → R FR} (h : EndS P E z σ ρ H G D ((R.of o).bind k)) : ∃ a, o = some a ∧ EndS P E z σ ρ H G D (k a) := by
  cases o with
  | some a => exact ⟨a, rfl, h⟩
  | none => exact h.elim
/-- a statement's reading -/
def tS (P : Pm) (E : XK) (z : Bool) (f : Env → R FR) : TS := fun D σ H => ∃ ρ G, Sim P.K P.T ρ σ H G ∧ EndS P E z σ ρ H G D (f ρ)
end
theorem PS.mono {X : Cx} {e : Stmt} {t t' : TS} (h : PS X e t) (m : ∀ D σ H, t' D σ H → t D σ H) : PS X e t' := ⟨fun pins s σ H Q I q => h.run pins s σ H Q I (m Q σ H q)⟩
theorem PSs.mono {X : Cx} {e : List Stmt} {t t' : TS} (h : PSs X e t) (m : ∀ D σ H, t' D σ H → t D σ H) : PSs X e t' := ⟨fun pins s σ H Q I q => h.run pins s σ H Q I (m Q σ H q)⟩
section
variable {K : PySem.W.Frag} {T : List (Addr × Str)} {ρ ρ' ρ1 ρ2 ρ0 : Env} {σ σ' σ0 : L2.St} {H H' H1 H0 G G' G1 G0 : Hp} {z : Bool}
/-- a slot is given an own object that was not there at the beginning -/
theorem Stp.setO {i : Nat} {d : D} {a : Addr} {o : HO} (st : Stp K T ρ0 σ0 H0 G0 ρ σ H G) (hi : i < ρ.length) (h0 : ¬ Live H0 a) (ha : H a = some o) (g : G a = none) (w : OwnO K G d o) (n : ¬ Ow ρ σ a) :
    Stp K T ρ0 σ0 H0 G0 (ρ.set i (some (.own d))) (σ.set i (some (.ref a))) H G := by
  have s := st.sim
  have hi' : i < σ.length := by rw [← s.len]; exact hi
  have ne : ∀ {j : Nat} {u : V}, j ≠ i → (IsV (σ.set i (some (.ref a))) j u ↔ IsV σ j u) := fun {j u} hj => by
    unfold IsV
    rw [List.getElem?_set_ne (Ne.symm hj)]
  have at_i : IsV (σ.set i (some (.ref a))) i (.ref a) := List.getElem?_set_self hi'
  refine ⟨⟨by rw [List.length_set, List.length_set]; exact s.len, s.sub, s.gnt, fun j e h => ?_, fun j e h => ?_, fun j k e e' b h h' hv hv' => ?_, s.tabs⟩, st.sub, st.frame, st.gfr, fun b y => ?_, st.mono, by rw [List.length_set]; exact st.len⟩
  · rcases isI_set h with ⟨_, _, y⟩ | ⟨hj, h⟩
    · cases y
    · obtain ⟨u, hu, q⟩ := s.imm j e h
      exact ⟨u, (ne hj).mpr hu, q⟩
  · rcases isO_set h with ⟨rfl, _, y⟩ | ⟨hj, h⟩
    · cases y
      exact ⟨a, o, at_i, g, ha, w⟩
    · obtain ⟨b, o', hu, q⟩ := s.own j e h
      exact ⟨b, o', (ne hj).mpr hu, q⟩
  · rcases isO_set h with ⟨ej, _, _⟩ | ⟨hj, h⟩
    · rcases isO_set h' with ⟨ek, _, _⟩ | ⟨hk, h'⟩
      · rw [ej, ek]
      · rw [ej] at hv
        cases hv.inj at_i
        exact (n ⟨k, e', h', (ne hk).mp hv'⟩).elim
    · rcases isO_set h' with ⟨ek, _, _⟩ | ⟨hk, h'⟩
      · rw [ek] at hv'
        cases hv'.inj at_i
        exact (n ⟨j, e, h, (ne hj).mp hv⟩).elim
      · exact s.dis j k e e' b h h' ((ne hj).mp hv) ((ne hk).mp hv')
  · obtain ⟨j, e, h, hv⟩ := y
    rcases isO_set h with ⟨rfl, _, _⟩ | ⟨hj, h⟩
    · cases hv.inj at_i
      exact .inr h0
    · exact st.own b ⟨j, e, h, (ne hj).mp hv⟩
/-- a slot's value is stored -/
theorem res_ok {i : Nat} {v : V} {x : RV} {p : PV} (s0 : Sim K T ρ σ H G) (st : StE K T σ ρ H G ρ1 H1 G1) (rv : RVok K ρ1 σ H H1 G1 v x) (e1 : res ρ1 x = some (p, ρ2)) (e2 : setV z i p ρ2 = some ρ') :
    ∃ G2, StZ K T z ρ σ H G ρ' (σ.set i (some v)) H1 G2 := by
  unfold setV at e2
  split at e2
  · cases e2
  · rename_i hc
    cases e2
    have hc : ((z && i == 0) || decide (ρ2.length ≤ i)) = false := Bool.eq_false_iff.mpr hc
    rw [Bool.or_eq_false_iff] at hc
    have hi : i < ρ2.length := Nat.lt_of_not_le (of_decide_eq_false hc.2)
    have h0 : z = true → (σ.set i (some v))[(0 : Nat)]? = σ[(0 : Nat)]? := fun hz => by
      have : i ≠ 0 := fun e => by rw [hz, e] at hc; cases hc.1
      rw [List.getElem?_set_ne this]
    cases x with
    | imm d =>
      cases e1
      exact ⟨G1, st.st.trans (Stp.setI st.sim hi rv), h0⟩
    | tmp d =>
      cases e1
      obtain ⟨a, o, e, h1, g, w, n⟩ := rv
      subst e
      exact ⟨G1, Stp.setO st.st hi n h1 g w fun y => n (st.h0 s0 a y), h0⟩
    | slot j =>
      obtain ⟨q, e3, e4⟩ := Option.map_eq_some_iff.mp e1
      cases e4
      obtain ⟨G2, st2, r2, _⟩ := fz_ok s0 st rv (show fz ρ1 (.slot j) = some (q.1, q.2) from e3)
      exact ⟨G2, st2.st.trans (Stp.setI st2.sim hi r2), h0⟩
/-- an own object is written -/
theorem StE.wr {i : Nat} {d d' : D} {a : Addr} {o' : HO} (s : Sim K T ρ σ H G) (q : IsO ρ i d) (e : IsV σ i (.ref a)) (w : OwnO K G d' o') : StE K T σ ρ H G (ρ.set i (some (.own d'))) (upd H a o') G := by
  obtain ⟨b, o, e', g, hb, w0⟩ := s.own i d q
  cases e.inj e'
  have ow : Ow ρ σ a := ⟨i, d, q, e⟩
  have at_ : ∀ {j e}, IsO (ρ.set i (some (.own d'))) j e → ∃ e', IsO ρ j e' := fun {j e} h => by
    rcases isO_set h with ⟨rfl, _, _⟩ | ⟨_, h⟩
    · exact ⟨d, q⟩
    · exact ⟨e, h⟩
  refine ⟨⟨⟨by rw [List.length_set]; exact s.len, fun b u y => ?_, s.gnt, fun j e2 h => ?_, fun j e2 h => ?_, fun j k e2 e3 b h h' hv hv' => ?_, ?_⟩, Sub.refl G, fun b u y n w => ?_, fun b u y m g w => g, fun b y => ?_, fun b y => ?_, List.length_set⟩, fun j d2 h => at_ h⟩
  · have nb : b ≠ a := ne_of_none y g
    rw [upd_ne nb]
    exact s.sub b u y
  · rcases isI_set h with ⟨_, _, y⟩ | ⟨_, h⟩
    · cases y
    · exact s.imm j e2 h
  · rcases isO_set h with ⟨rfl, _, y⟩ | ⟨hj, h⟩
    · cases y
      exact ⟨a, o', e, g, upd_same, w⟩
    · obtain ⟨b, u, hv, gb, hu, wu⟩ := s.own j e2 h
      have nb : b ≠ a := fun y => hj (s.dis j i e2 d b h q hv (by rw [y]; exact e))
      exact ⟨b, u, hv, gb, by rw [upd_ne nb]; exact hu, wu⟩
  · obtain ⟨e4, h⟩ := at_ h
    obtain ⟨e5, h'⟩ := at_ h'
    exact s.dis j k e4 e5 b h h' hv hv'
  · intro p hp
    obtain ⟨ps, h1, h2, h3⟩ := s.tabs p hp
    have np : p.1 ≠ a := fun y => by
      rw [y, hb] at h1
      exact nt_mut w0.mut ps (Option.some.inj h1)
    refine ⟨ps, by rw [upd_ne np]; exact h1, h2, fun pos cv y => ?_⟩
    obtain ⟨c, e1, e2⟩ := h3 pos cv y
    refine ⟨c, e1, ?_⟩
    have nc : c ≠ a := fun y => by
      rw [y, hb] at e2
      have : Mut (some (LamX.CodeO a p.2)) := by rw [← e2]; exact w0.mut
      have h5 := Option.some.inj e2
      cases d with
      | lst ds => obtain ⟨vs, e6, _⟩ := w0; rw [e6] at h5; cases h5
      | dic ks ws => rcases w0 with ⟨kvs, e6, _⟩ | ⟨kvs, e6, _⟩ <;> (rw [e6] at h5; cases h5)
      | _ => exact w0.elim
    rw [upd_ne nc]
    exact e2
  · have nb : b ≠ a := fun z => w (by rw [z]; exact ow)
    rw [upd_ne nb]
    exact y
  · obtain ⟨j, e2, h, hv⟩ := y
    obtain ⟨e3, h⟩ := at_ h
    exact .inl ⟨j, e3, h, hv⟩
  · obtain ⟨u, e2, n⟩ := y
    by_cases hb' : b = a
    · subst hb'
      exact ⟨o', upd_same, nt_mut w.mut⟩
    · exact ⟨u, by rw [upd_ne hb']; exact e2, n⟩
/-- a slot is forgotten -/
theorem Stp.drop {i : Nat} (s : Sim K T ρ σ H G) : Stp K T ρ σ H G (ρ.set i none) σ H G := by
  have ow : ∀ {j e}, IsO (ρ.set i none) j e → j ≠ i ∧ IsO ρ j e := fun {j e} h => by
    rcases isO_set h with ⟨_, _, y⟩ | h
    · cases y
    · exact h
  refine ⟨⟨by rw [List.length_set]; exact s.len, s.sub, s.gnt, fun j e h => ?_, fun j e h => s.own j e (ow h).2, fun j k e e' a h h' => s.dis j k e e' a (ow h).2 (ow h').2, s.tabs⟩, Sub.refl G, fun _ _ h _ _ => h, fun _ _ _ _ h _ => h, fun b y => ?_, fun _ h => h, List.length_set⟩
  · rcases isI_set h with ⟨_, _, y⟩ | ⟨_, h⟩
    · cases y
    · exact s.imm j e h
  · obtain ⟨j, e, h, hv⟩ := y
    exact .inl ⟨j, e, (ow h).2, hv⟩
end
section
variable {X : Cx} {P : Pm} {E : XK} {GD : Nat → D} {F : Nat → Fn} {z : Bool} {pos : Pos} {a b c e : Expr} {ca cb cc ce : CE} {st : Stmt} {rest : List Stmt} {cst : CS} {cbl cbl' : CB}
theorem ks_nil : PSs X [] (tS P E z (denBl GD F z .e)) := PSs.mono pss_nil fun D σ H ⟨ρ, G, s, h⟩ => by
  unfold denBl at h
  exact h σ H G (.refl s)
theorem ks_cons (h1 : PS X st (tS P E z (denS GD F z cst))) (h2 : PSs X rest (tS P E z (denBl GD F z cbl))) : PSs X (st :: rest) (tS P E z (denBl GD F z (.c cst cbl))) := by
  refine PSs.mono (pss_cons h1 h2) fun D σ H ⟨ρ, G, s, h⟩ => ?_
  unfold denBl at h
  refine ⟨ρ, G, s, ?_⟩
  cases q : denS GD F z cst ρ with
  | ok f =>
    rw [q] at h
    cases f with
    | nx ρ' => exact fun σ' H' G' s' => ⟨ρ', G', s'.st.sim, EndS.move s' (show EndS P E z σ ρ H G D (denBl GD F z cbl ρ') from h)⟩
    | bk ρ' => exact h
    | ct ρ' => exact h
    | rt fr d ρ' => exact h
  | exc c p => rw [q] at h; exact h
  | bad => rw [q] at h; exact h
/-- name = e, whatever the reading of the store -/
theorem set_main {i : Nat} : ∀ D σ H, tS P E z (denS GD F z (.set i ce)) D σ H → tAsg (tE P E (den GD F ce)) (gName i) D σ H := by
  intro D σ H ⟨ρ, G, s, h⟩
  unfold denS at h
  refine ⟨ρ, G, s, h.bindX fun x ρ1 H1 G1 st1 h1 v rv => ?_⟩
  obtain ⟨p, e1, h1⟩ := h1.of
  obtain ⟨ρ', e2, h1⟩ := h1.of
  obtain ⟨G2, q⟩ := res_ok s st1 rv e1 e2
  exact h1 _ _ _ q
theorem ks_set {i : Nat} {x : Str} {pos' : Pos} (hN : X.N.Nodup) (hi : X.N[i]? = some x) (hx : Loc X.env.scope x) (he : PE X e (tE P E (den GD F ce))) (hs : swapsWith e (some (.Name x pos')) pos.line X.env = pure false := by rfl)
    (hf : X.fn x = true ∨ X.env.scope.names.lookup x = some .local := by first | exact .inl rfl | exact .inr rfl | assumption) : PS X (.Assign [.Name x pos'] e pos) (tS P E z (denS GD F z (.set i ce))) :=
  PS.mono (ps_set hN hi hx he hs hf) set_main
/-- name = [.. for ..] on one line, the name not captured -/
theorem ks_setLc {i : Nat} {y : Str} {py spos : Pos} {elt tg iter : Expr} {ifs : List Expr} {scope : Scope} {ow : List (Str × Nat)} {own : List Nat} {t : Kn.TG} {cs : CI} {co : CO} (hc : X.calm = true) (hN : X.N.Nodup) (hy : X.N[i]? = some y) (hyl : X.env.scope.names.lookup y = some .local)
    (hsw : swapsWith (.ListComp elt [⟨tg, iter, ifs, 0⟩] scope pos) (some (.Name y py)) spos.line X.env = pure true) (hi : PI X tg iter (tI P E own (denI GD F own cs))) (ok : BlkOk X.N X.env.scope scope ow)
    (hg : ∀ (s : Shared) (H : Hp) (C : Addr) (cl : List (Str × Addr)) (fp : List Addr), PG (X.blk s H scope (compEnvC scope cl C X.env) fp) tg (tG P t)) (ht : ∀ (s : Shared) (H : Hp) (C : Addr) (cl : List (Str × Addr)) (fp : List Addr), PTs (X.blk s H scope (compEnvC scope cl C X.env) fp) ifs (tB P E0 (denT GD F co)))
    (he : ∀ (s : Shared) (H : Hp) (C : Addr) (cl : List (Str × Addr)) (fp : List Addr), PE (X.blk s H scope (compEnvC scope cl C X.env) fp) elt (tE P E0 (den GD F ce))) (hvo : ∀ i, i ∈ ow.map (·.2) → i ∈ own := by decide) (hto : ∀ i, i ∈ t.vars → i ∈ ow.map (·.2) := by decide)
    (hs : ∀ x, foldedSetIterable iter X.env x = pure x := by intro _; rfl) : PS X (.Assign [.Name y py] (.ListComp elt [⟨tg, iter, ifs, 0⟩] scope pos) spos) (tS P E z (denS GD F z (.set i (.lc own t cs co ce)))) := by
  refine PS.mono (ps_setLc hc hN hy hyl hsw hi ok hg ht he hs) fun D σ H h => ?_
  have h1 := set_main (P := P) (E := E) D σ H h
  exact lc_main (tt := tYes) (te := tC .non) (g := gName 0) (wi := tI P E own (denI GD F own cs)) hvo hto σ H _ h1
/-! ### tests, blocks, ends -/
theorem ks_if {A B : List Stmt} (hc : PT X c (tB P E (denB GD F cc))) (ha : PSs X A (tS P E z (denBl GD F z cbl))) (hb : PSs X B (tS P E z (denBl GD F z cbl'))) : PS X (.If c A B pos) (tS P E z (denS GD F z (.iff cc cbl cbl'))) := by
  refine PS.mono (ps_if hc ha hb) fun D σ H ⟨ρ, G, s, h⟩ => ?_
  unfold denS at h
  refine ⟨ρ, G, s, h.bindX fun x ρ1 H1 G1 st1 h1 => ?_⟩
  show if x = true then tS P E z (denBl GD F z cbl) D σ H1 else tS P E z (denBl GD F z cbl') D σ H1
  dsimp only at h1
  split at h1
  · rename_i hx
    rw [if_pos hx]
    exact ⟨ρ1, G1, st1.sim, EndS.move st1.toZ h1⟩
  · rename_i hx
    rw [if_neg hx]
    exact ⟨ρ1, G1, st1.sim, EndS.move st1.toZ h1⟩
theorem ks_pass : PS X (.Pass pos) (tS P E z (denS GD F z .pass)) := PS.mono ps_pass fun D σ H ⟨ρ, G, s, h⟩ => by
  unfold denS at h
  exact h σ H G (.refl s)
theorem ks_brk : PS X (.Break pos) (tS P E z (denS GD F z .brk)) := PS.mono ps_break fun D σ H ⟨ρ, G, s, h⟩ => by
  unfold denS at h
  exact h σ H G (.refl s)
theorem ks_cont : PS X (.Continue pos) (tS P E z (denS GD F z .cont)) := PS.mono ps_continue fun D σ H ⟨ρ, G, s, h⟩ => by
  unfold denS at h
  exact h σ H G (.refl s)
theorem ks_ret (he : PE X e (tE P E (den GD F ce))) : PS X (.Return (some e) pos) (tS P E z (denS GD F z (.ret ce))) := by
  refine PS.mono (ps_ret he) fun D σ H ⟨ρ, G, s, h⟩ => ?_
  unfold denS at h
  refine ⟨ρ, G, s, h.bindX fun x ρ1 H1 G1 st1 h1 v rv => ?_⟩
  cases x with
  | imm d => exact h1 v σ H1 G1 st1.toZ rv
  | tmp d =>
    obtain ⟨a, o, e, h2, g, w, n⟩ := rv
    exact h1 v σ H1 G1 st1.toZ ⟨a, o, e, h2, g, w, .inr n, fun y => n (st1.h0 s a y)⟩
  | slot i =>
    dsimp only at h1
    split at h1
    · rename_i d q
      split at h1
      · exact h1.elim
      · obtain ⟨a, o, e, g, h2, w⟩ := st1.sim.own i d q
        cases rv.1.inj e
        refine h1 _ σ H1 G1 ⟨st1.st.trans (Stp.drop st1.sim), fun _ => rfl⟩ ⟨a, o, rfl, h2, g, w, .inl (st1.ow ⟨i, d, q, e⟩), fun y => ?_⟩
        obtain ⟨j, d', q', e'⟩ := y
        rcases isO_set q' with ⟨_, _, y⟩ | ⟨hj, q'⟩
        · cases y
        · exact hj (st1.sim.dis j i d' d a q' q e' e)
    · rename_i d q
      obtain ⟨u, e, r⟩ := st1.sim.imm i d q
      cases rv.1.inj e
      exact h1 _ σ H1 G1 st1.toZ r
    · exact h1.elim
/-- raise C('..') -/
theorem ks_raise {k : Nat} {C : Addr} {bmB : List Value} {B newId initId : String} {x m : Str} {j : Nat} {p p2 p3 : Pos} (hc : X.calm = true) (tk : Takes X fun cls d _ H => E cls d H) (FB : ExcBaseFacts B newId initId bmB) (q : PySem.W.excIn X.K C bmB newId = true) (gC : X.mg x = some (.ref C))
    (kC : PySem.W.keepIn X.K (.ref C) = true) (r : Raises X (.ref C)) (hg : Gl X x) (hXC : ∀ H, P.XC k .non (.ref C) none H) (hdb : (x == ("__debug__" : Str)) = false := by decide) :
    PS X (.Raise (some (.Call (.Name x p) [.Constant (.str m) j p2] [] p3)) none pos) (tS P E z (denS GD F z (.rai k .no))) := by
  refine PS.mono (ps_raise hc tk (pmk_own FB q gC kC r hg hdb)) fun D σ H ⟨ρ, G, s, h⟩ => ?_
  unfold denS at h
  exact h _ _ H ⟨fun _ _ h _ _ => h, fun _ h => h, s.tabs⟩ (hXC H)
/-! ### stores into own objects -/
theorem pset_ok (hu : X.A.units + 65 < cLine) : PSet X (fun o i v H Q => ∃ G a d dk, Gd P.K P.T H G ∧ o = .ref a ∧ Red X.K H G dk i ∧
    ((∃ xs vs k j dv, d = D.lst xs ∧ H a = some (.lst vs) ∧ RepL X.K G xs vs ∧ dk = .int k ∧ Kn.ixN xs.length k = some j ∧ Rep X.K G dv v ∧ Q (upd H a (.lst (vs.set j v)))) ∨
     ∃ ks ws kvs dv, d = D.dic ks ws ∧ H a = some (.dK kvs) ∧ IsK X.K G ks ws kvs ∧ dkey0 dk = true ∧ ks.length < line ∧ Rep X.K G dv v ∧ Q (upd H a (.dK (putK kvs (keyOf dk) v))))) := by
  intro pins s σ H o i v ov iv u Q I ro ri rv ⟨G, a, d, dk, gd, ea, hk, h⟩
  subst ea
  rcases h with ⟨xs, vs, k, j, dv, _, ha, r, ek, hj, rd, q⟩ | ⟨ks, ws, kvs, dv, _, ha, isk, hk0, hl, rd, q⟩
  · subst ek
    exact set_list pins s σ H _ i v ov iv u Q I ro ri rv ⟨a, vs, k, j, rfl, red_int hk, ha, by rw [r.length]; exact hj, q⟩
  · cases ro
    obtain ⟨e1, _⟩ := red_key hk0 hk
    have hl' : kvs.length < sizeLine := by
      have : ks.length = kvs.length := by rw [isk.keys, List.length_map]
      have e := line_eq
      omega
    exact d_setItem (by omega) I (.inl ⟨kvs, keyOf dk, ha, e1, hl', rfl⟩) ri rv fun s' I' => ⟨_, I', q⟩
end
end Kn

end

section
/-! K, statements: stores, appends, loops. -/
namespace Kn
open PySem PySem.Spec PyProof.Rows L2
section
variable {X : Cx} {P : Pm} {E : XK} {GD : Nat → D} {F : Nat → Fn} {z : Bool} {pos : Pos} {a b c e : Expr} {ca cb cc ce : CE} {st : Stmt} {rest : List Stmt} {cst : CS} {cbl cbl' : CB}
/-- o[b] = e, o a name -/
theorem ks_sti {i : Nat} {x : Str} {px ps : Pos} (hK : P.K = X.K) (hu : X.A.units + 65 < cLine) (hN : X.N[i]? = some x) (hv : Vis X.env.scope x) (he : PE X e (tE P E (den GD F ce))) (hb : PE X b (tE P E (den GD F cb)))
    (hs : swapsWithSole [.Subscript (.Name x px) b ps] e pos.line X.env = pure false := by rfl) (hw : swappedStores [.Subscript (.Name x px) b ps] e X.env = pure none := by rfl) (h1 : (assignEach [.Subscript (.Name x px) b ps] X.env).map (·.2) = [assign (.Subscript (.Name x px) b ps) X.env] := by rfl)
    (ha : ∀ v, assign (.Subscript (.Name x px) b ps) X.env v = (do
      let ov ← holding [v] (eval (.Name x px) X.env)
      let iv ← holding [v, ov] (eval b X.env)
      standAt ps
      holding [v, ov, iv] (setItem ov iv v)
      release [v, ov, iv] []) := by intro _; rfl) (hd : (x == ("__debug__" : Str)) = false := by decide) (hcd : (x == ("__classdict__" : Str)) = false := by decide) :
    PS X (.Assign [.Subscript (.Name x px) b ps] e pos) (tS P E z (denS GD F z (.sti i cb ce))) := by
  refine PS.mono (ps_asg he (pg_sub (pe_var hN hv hd hcd) hb (pset_ok (P := P) hu) ha) hs hw h1) fun D σ H ⟨ρ, G, s, h⟩ => ?_
  unfold denS at h
  refine ⟨ρ, G, s, h.bindX fun x ρ1 H1 G1 st1 h1 v rv => ?_⟩
  obtain ⟨p, e1, h1⟩ := h1.of
  obtain ⟨G2, st2, r2, _⟩ := fz_ok s st1 rv e1
  split at h1
  · rename_i d0 q0
    obtain ⟨l, o0, el, gl, hl, w0⟩ := st2.sim.own i d0 q0
    have h1 := EndS.move st2.toZ h1
    refine ⟨.ref l, el, p.2, G2, st2.sim, h1.bindX fun y ρ3 H3 G3 st3 h3 u ru => ?_⟩
    have r3 := Rep.sub st3.st.sub _ r2
    dsimp only at h3
    split at h3
    · rename_i xs q
      obtain ⟨l', o, el', gl', hl', w⟩ := st3.sim.own i _ q
      cases el.inj el'
      obtain ⟨vs, eo, rl⟩ := w
      subst eo
      split at h3
      · rename_i j ey
        split at h3
        · rename_i m hm
          have red := readv st2.sim st3 ru ey
          rw [← hK]
          refine ⟨G3, l, .lst xs, .int j, st3.sim.gd, rfl, red, .inl ⟨xs, vs, j, m, p.1, rfl, hl', rl, rfl, hm, r3, ?_⟩⟩
          have wr := StE.wr st3.sim q el (d' := .lst (xs.set m p.1)) (o' := .lst (vs.set m v)) ⟨_, rfl, rl.set m r3⟩
          exact h3 _ _ _ (StZ.trans st3.toZ wr.toZ)
        · exact h3.elim
      · exact h3.elim
    · rename_i ks ws q
      obtain ⟨l', o, el', gl', hl', w⟩ := st3.sim.own i _ q
      cases el.inj el'
      split at h3
      · rename_i k ey
        split at h3
        · rename_i hc
          rw [Bool.and_eq_true] at hc
          have red := readv st2.sim st3 ru ey
          have hk := hc.1
          unfold dkeys at hk
          rw [Bool.and_eq_true] at hk
          rcases w with ⟨kvs, eo, isk⟩ | ⟨kvs, eo, ek, ⟨ne, _⟩, _⟩
          · subst eo
            have isk : IsK P.K G3 ks ws kvs := ⟨isk.1, isk.2.1, isk.2.2.1, isk.2.2.2⟩
            rw [← hK]
            refine ⟨G3, l, .dic ks ws, k, st3.sim.gd, rfl, red, .inr ⟨ks, ws, kvs, p.1, rfl, hl', isk, hk.1, of_decide_eq_true hc.2, r3, ?_⟩⟩
            have wr := StE.wr st3.sim q el (d' := .dic (putD k p.1 ks ws).1 (putD k p.1 ks ws).2) (o' := .dK (putK kvs (keyOf k) v)) (isk.put hk.1 (red_key hk.1 red).2 r3).own
            exact h3 _ _ _ (StZ.trans st3.toZ wr.toZ)
          · rw [ek] at hk
            exact absurd (all_keyD hk.2) ne
        · exact h3.elim
      · exact h3.elim
    · exact h3.elim
  · exact h1.elim
/-- xs.append(e) -/
theorem ks_app {i : Nat} {x : Str} {px apos cpos : Pos} (hK : P.K = X.K) (hN : X.N[i]? = some x) (hv : Vis X.env.scope x) (he : PE X e (tE P E (den GD F ce)))
    (hbase : attributeBase (.Name x px) "append" X.env (eval (.Name x px) X.env) = eval (.Name x px) X.env := by rfl)
    (hfew : ((backTo cpos (starEach [e] X.env)).all (fun x => !x.1) && (backToKw cpos (keywordEach [] X.env)).all (fun x => x.1.isSome) && decide ([e].length + ([] : List Keyword).length + (if ([] : List Keyword).isEmpty then 0 else 1) < 30)) = true := by rfl)
    (hline : (apos.endLine == cpos.line) = true := by rfl) (hs1 : starEach [e] X.env = (false, eval e X.env) :: starEach [] X.env := by rfl) (hplain : (backTo cpos (starEach [] X.env)).any (·.1) = false := by rfl)
    (hs : swapsWith (.Call (.Attribute (.Name x px) "append" apos) [e] [] cpos) none pos.line X.env = pure false := by rfl) (hd : (x == ("__debug__" : Str)) = false := by decide) (hcd : (x == ("__classdict__" : Str)) = false := by decide) :
    PS X (.Expr (.Call (.Attribute (.Name x px) "append" apos) [e] [] cpos) pos) (tS P E z (denS GD F z (.app i ce))) := by
  refine PS.mono (ps_expr (pe_bm PySem.F.plainAttrs_list PySem.F.slot_list_append PySem.F.type_list_append mt_append (pe_var hN hv hd hcd) (pa_cons he pa_nil hs1) hbase hfew hline hs1 hplain) hs) fun D σ H ⟨ρ, G, s, h⟩ => ?_
  unfold denS at h
  split at h
  · rename_i xs0 q0
    obtain ⟨l, o0, el, gl, hl, vs0, eo0, r0⟩ := s.own i _ q0
    subst eo0
    refine ⟨.ref l, el, .inl ⟨rfl, _, .of hl⟩, ρ, G, s, h.bindX fun x ρ1 H1 G1 st1 h1 v rv => ?_⟩
    obtain ⟨p, e1, h1⟩ := h1.of
    obtain ⟨G2, st2, r2, _⟩ := fz_ok s st1 rv e1
    split at h1
    · rename_i xs q
      obtain ⟨l', o, el', gl', hl', vs, eo, rl⟩ := st2.sim.own i _ q
      cases el.inj el'
      subst eo
      split at h1
      · rename_i hlen
        refine ⟨l, vs, v, rfl, rfl, hl', by rw [rl.length, sizeLine_eq]; exact hlen, ?_⟩
        have wr := StE.wr st2.sim q el (d' := .lst (xs ++ [p.1])) (o' := .lst (vs ++ [v])) ⟨_, rfl, rl.append (.cons r2 .nil)⟩
        exact h1 _ _ _ (StZ.trans st2.toZ wr.toZ)
      · exact h1.elim
    · exact h1.elim
  · exact h.elim
/-! ### a op= e -/
def AugS (X : Cx) (P : Pm) (o : BOp) : Prop := OpR X (inplaceOp (pyop o)) (fun x y H Q => ∃ G dx dy r, Gd P.K P.T H G ∧ Rep X.K G dx x ∧ Red X.K H G dy y ∧ augop o dx dy = some r ∧ ∀ v, Rep X.K G r v → Q v H)
theorem aug_ok (o : BOp) : AugS X P o := by
  intro pins s σ H x y v u Q I rx ry ⟨G, dx, dy, r, gd, hx, hy, e, h⟩
  have hx : Red X.K H G dx x := .inl hx
  unfold augop at e
  split at e <;> first | (cases e; done) | skip
  · cases e
    exact iop_add pins s σ H x y v u Q I rx ry ⟨_, _, red_int hx, red_int hy, h _ rep_int⟩
  · split at e
    · rename_i hl
      cases e
      obtain ⟨e1, o1⟩ := red_str hx
      obtain ⟨e2, o2⟩ := red_str hy
      refine iop_add_str pins s σ H x y v u Q I rx ry ⟨_, _, e1, e2, by rw [len_txS, len_txS, ← line_eq]; exact hl, ?_⟩
      rw [← txS_append]
      exact h _ (rep_str (okT_append o1 o2))
    · cases e
  · cases e
    exact iop_sub pins s σ H x y v u Q I rx ry ⟨_, _, red_int hx, red_int hy, h _ rep_int⟩
  · split at e
    · rename_i hc
      cases e
      rw [Bool.or_eq_true] at hc
      exact iop_mul pins s σ H x y v u Q I rx ry ⟨_, _, red_int hx, red_int hy, hc.imp sm64_of sm64_of, h _ rep_int⟩
    · cases e
  · split at e
    · rename_i hc
      cases e
      rw [Bool.and_eq_true, decide_eq_true_eq, decide_eq_true_eq] at hc
      exact iop_fdiv pins s σ H x y v u Q I rx ry ⟨_, _, red_int hx, red_int hy, hc, h _ rep_int⟩
    · cases e
  · split at e
    · rename_i hc
      cases e
      exact iop_mod pins s σ H x y v u Q I rx ry ⟨_, _, red_int hx, red_int hy, hc, h _ rep_int⟩
    · cases e
/-- by values: data, or an own list with another list -/
theorem aug_any (o : BOp) : PIp X (pyop o) (fun x y H Q => (∃ G dx dy r, Gd P.K P.T H G ∧ Rep X.K G dx x ∧ Red X.K H G dy y ∧ augop o dx dy = some r ∧ ∀ v, Rep X.K G r v → Q v H) ∨
    (o = .add ∧ ∃ G l vs xs ys, Gd P.K P.T H G ∧ x = .ref l ∧ H l = some (.lst vs) ∧ RepL X.K G xs vs ∧ Red X.K H G (.lst ys) y ∧ xs.length + ys.length ≤ line ∧ ∀ ws, RepL X.K G ys ws → Q (.ref l) (upd H l (.lst (vs ++ ws))))) := by
  intro pins s σ H x y v u Q I rx ry h
  rcases h with h | ⟨eo, G, l, vs, xs, ys, gd, ex, hl, r, hy, hlen, h⟩
  · exact aug_ok (P := P) o pins s σ H x y v u Q I rx ry h
  · subst eo
    obtain ⟨b, ws, ey, hb, r2⟩ := red_lst gd.sub hy
    exact iop_ext pins s σ H x y v u Q I rx ry ⟨l, b, vs, ws, ex, ey, hl, hb, by rw [r.length, r2.length, ← line_eq]; exact hlen, h ws r2⟩
theorem set_same {α : Type} {l : List α} {i : Nat} {x : α} (h : l[i]? = some x) : l.set i x = l := by
  apply List.ext_getElem?
  intro j
  by_cases e : i = j
  · subst e
    obtain ⟨hl, e2⟩ := List.getElem?_eq_some_iff.mp h
    rw [List.getElem?_set_self hl, h]
  · rw [List.getElem?_set_ne e]
theorem ks_aug {i : Nat} {x : Str} {px : Pos} {o : BOp} (hK : P.K = X.K) (hN : X.N.Nodup) (hi : X.N[i]? = some x) (hx : Loc X.env.scope x) (he : PE X e (tE P E (den GD F ce)))
    (hf : X.fn x = true ∨ X.env.scope.names.lookup x = some .local := by first | exact .inl rfl | exact .inr rfl | assumption) : PS X (.AugAssign (.Name x px) (pyop o) e pos) (tS P E z (denS GD F z (.aug i o ce))) := by
  refine PS.mono (ps_aug hN hi hx he (aug_any (P := P) o) hf) fun D σ H ⟨ρ, G, s, h⟩ => ?_
  unfold denS at h
  split at h
  · rename_i d q
    obtain ⟨v, ev, r⟩ := s.imm i d q
    refine ⟨v, ev, ρ, G, s, h.bindX fun y ρ1 H1 G1 st1 h1 u ru => ?_⟩
    obtain ⟨dy, e1, h1⟩ := h1.of
    obtain ⟨r', e2, h1⟩ := h1.of
    obtain ⟨ρ', e3, h1⟩ := h1.of
    rw [← hK]
    refine .inl ⟨G1, d, dy, r', st1.sim.gd, Rep.sub st1.st.sub _ r, readv s st1 ru e1, e2, fun w rw' => ?_⟩
    obtain ⟨G2, q2⟩ := res_ok (v := w) (x := .imm r') s st1 rw' (show res ρ1 (.imm r') = some (.imm r', ρ1) from rfl) e3
    exact h1 _ _ _ q2
  · rename_i xs0 q
    obtain ⟨l, o0, el, gl, hl, vs0, eo0, r0⟩ := s.own i _ q
    refine ⟨.ref l, el, ρ, G, s, h.bindX fun y ρ1 H1 G1 st1 h1 u ru => ?_⟩
    dsimp only at h1
    split at h1
    · rename_i xs q1
      obtain ⟨l', o1, el', gl', hl', vs, eo, rl⟩ := st1.sim.own i _ q1
      cases el.inj el'
      subst eo
      split at h1
      · rename_i ys ey _
        split at h1
        · rename_i hlen
          obtain ⟨ρ', e3, h1⟩ := h1.of
          rw [← hK]
          refine .inr ⟨rfl, G1, l, vs, xs, ys, st1.sim.gd, rfl, hl', rl, readv s st1 ru ey, hlen, fun ws rw' => ?_⟩
          have wr := StE.wr st1.sim q1 el (d' := .lst (xs ++ ys)) (o' := .lst (vs ++ ws)) ⟨_, rfl, rl.append rw'⟩
          have es : σ.set i (some (.ref l)) = σ := set_same el
          unfold setV at e3
          split at e3
          · cases e3
          · cases e3
            show D.nx (σ.set i (some (.ref l))) _
            rw [es]
            exact h1 _ _ _ (StZ.trans st1.toZ wr.toZ)
        · exact h1.elim
      · exact h1.elim
    · exact h1.elim
  · exact h.elim
/-! ### targets that are tuples -/
theorem no0_vars : ∀ t : Kn.TG, t.no0 = true → 0 ∉ t.vars := by
  have key : (∀ t : Kn.TG, t.no0 = true → 0 ∉ t.vars) ∧ ∀ ts : List Kn.TG, Kn.TG.no0L ts = true → 0 ∉ Kn.TG.varsL ts := by
    refine ⟨fun t => ?_, fun ts => ?_⟩
    · exact TG.rec (motive_1 := fun t => t.no0 = true → 0 ∉ t.vars) (motive_2 := fun ts => Kn.TG.no0L ts = true → 0 ∉ Kn.TG.varsL ts)
        (fun i h => by simp [Kn.TG.no0, Kn.TG.vars] at h ⊢; exact fun e => h e.symm) (fun ts ih h => by simpa [Kn.TG.no0, Kn.TG.vars] using ih (by simpa [Kn.TG.no0] using h)) (fun _ => by simp [Kn.TG.varsL])
        (fun t ts ih1 ih2 h => by
          simp only [Kn.TG.no0L, Bool.and_eq_true] at h
          simp only [Kn.TG.varsL, List.mem_append, not_or]
          exact ⟨ih1 h.1, ih2 h.2⟩) t
    · exact TG.rec_1 (motive_1 := fun t => t.no0 = true → 0 ∉ t.vars) (motive_2 := fun ts => Kn.TG.no0L ts = true → 0 ∉ Kn.TG.varsL ts)
        (fun i h => by simp [Kn.TG.no0, Kn.TG.vars] at h ⊢; exact fun e => h e.symm) (fun ts ih h => by simpa [Kn.TG.no0, Kn.TG.vars] using ih (by simpa [Kn.TG.no0] using h)) (fun _ => by simp [Kn.TG.varsL])
        (fun t ts ih1 ih2 h => by
          simp only [Kn.TG.no0L, Bool.and_eq_true] at h
          simp only [Kn.TG.varsL, List.mem_append, not_or]
          exact ⟨ih1 h.1, ih2 h.2⟩) ts
  exact key.1
theorem TgS.toZ {K : PySem.W.Frag} {T : List (Addr × Str)} {t : Kn.TG} {ρ ρ' : Env} {σ σ' : L2.St} {H G : Hp} (q : TgS K T t.vars ρ σ H G ρ' σ') (h : (z && !t.no0) = false) : StZ K T z ρ σ H G ρ' σ' H G :=
  ⟨q.st, fun hz => (q.out 0 (no0_vars t (by rw [hz] at h; simpa using h))).1⟩
theorem ks_ust {t : Kn.TG} {tg : Expr} (he : PE X e (tE P E (den GD F ce))) (hg : PG X tg (tG P t)) (hs : swapsWithSole [tg] e pos.line X.env = pure false := by rfl) (hw : swappedStores [tg] e X.env = pure none := by rfl)
    (h1 : (assignEach [tg] X.env).map (·.2) = [assign tg X.env] := by rfl) : PS X (.Assign [tg] e pos) (tS P E z (denS GD F z (.ust t ce))) := by
  refine PS.mono (ps_asg he hg hs hw h1) fun D σ H ⟨ρ, G, s, h⟩ => ?_
  unfold denS at h
  refine ⟨ρ, G, s, h.bindX fun x ρ1 H1 G1 st1 h1 v rv => ?_⟩
  obtain ⟨p, e1, h1⟩ := h1.of
  obtain ⟨G2, st2, r2, _⟩ := fz_ok s st1 rv e1
  split at h1
  · exact h1.elim
  · rename_i hz
    obtain ⟨ρ', e2, h1⟩ := h1.of
    exact ⟨p.2, G2, p.1, ρ', st2.sim, r2, e2, fun σ' tgs => h1 _ _ _ (StZ.trans st2.toZ (tgs.toZ (Bool.eq_false_iff.mpr hz)))⟩
/-! ### loops -/
theorem ks_for {tg iter : Expr} {body : List Stmt} {t : Kn.TG} {cs : CI} (hp : PassesOwn (model X.prog X.w) X.A X.env X.xe) (hc : X.calm = true) (hi : PI X tg iter (tI P E [] (denI GD F [] cs))) (hg : PG X tg (tG P t)) (hb : PSs X body (tS P E z (denBl GD F z cbl)))
    (hs : ∀ x, foldedSetIterable iter X.env x = pure x := by intro _; rfl) : PS X (.For tg iter body [] pos) (tS P E z (denS GD F z (.for_ t cs cbl))) := by
  refine PS.mono (ps_for hp hc hi hg hb hs) fun D σ H ⟨ρ, G, s, h⟩ => ?_
  unfold denS at h
  split at h
  · exact h.elim
  · rename_i hz
    have hz := Bool.eq_false_iff.mpr hz
    refine ⟨ρ, G, s, h.bindX fun ds ρ1 H1 G1 st1 h1 J gv => ?_⟩
    have nokp : ∀ {H' : Hp} b o, kpOf ρ1 σ [] b → H1 b = some o → H' b = some o := fun {H'} b o ⟨i, d, hi, _⟩ => by cases hi
    dsimp only at h1
    generalize hturn : (fun d ρ₁ => (R.of (bindT t d ρ₁)).bind fun ρ₂ => denBl GD F z cbl ρ₂) = turn at h1
    refine ⟨fun i m σ' H' => i + m = ds.length ∧ ∃ ρk Gk, StZ P.K P.T z ρ1 σ H1 G1 ρk σ' H' Gk ∧ EndS P E z σ ρ H G D (forLoop turn (ds.drop i) ρk) ∧ StZ P.K P.T z ρ σ H G ρk σ' H' Gk, ⟨ds.length, by omega, ρ1, G1, .refl st1.sim, h1, st1.toZ⟩, fun i m σ' H' hW => ?_⟩
    obtain ⟨hm, ρk, Gk, a, hl, a0⟩ := hW
    by_cases hi' : i < ds.length
    · right
      refine ⟨gv.go i H' Gk hi' a.st.sub a.st.sim.sub nokp, fun σ' H' => (i + 1) + (m - 1) = ds.length ∧ ∃ ρk Gk, StZ P.K P.T z ρ1 σ H1 G1 ρk σ' H' Gk ∧ EndS P E z σ ρ H G D (forLoop turn (ds.drop (i + 1)) ρk) ∧ StZ P.K P.T z ρ σ H G ρk σ' H' Gk, fun σ'' H'' y => ⟨m - 1, by omega, y⟩, fun x H'' y => ?_⟩
      have hdi : ds[i]? = some ds[i] := List.getElem?_eq_getElem hi'
      obtain ⟨G', c, rx⟩ := gv.yld i _ H' Gk x H'' hdi a.st.sub a.st.sim.gd nokp y
      have cst := (c.ste a.st.sim).toZ (z := z)
      rw [List.drop_eq_getElem_cons hi'] at hl
      unfold forLoop at hl
      rw [← hturn] at hl
      dsimp only at hl
      cases hb' : bindT t ds[i] ρk with
      | none => rw [hb'] at hl; exact hl.elim
      | some ρ2 =>
        rw [hb'] at hl
        have hl : EndS P E z σ ρ H G D ((denBl GD F z cbl ρ2).bind fun f => match f with
          | .nx ρ' => forLoop (fun d ρ₁ => (R.of (bindT t d ρ₁)).bind fun ρ₂ => denBl GD F z cbl ρ₂) (ds.drop (i + 1)) ρ'
          | .ct ρ' => forLoop (fun d ρ₁ => (R.of (bindT t d ρ₁)).bind fun ρ₂ => denBl GD F z cbl ρ₂) (ds.drop (i + 1)) ρ'
          | .bk ρ' => .ok (.nx ρ')
          | .rt fr d ρ' => .ok (.rt fr d ρ')) := hl
        rw [hturn] at hl
        refine ⟨ρk, G', _, ρ2, cst.st.sim, rx, hb', fun σ2 tgs => ⟨ρ2, G', tgs.st.sim, ?_⟩⟩
        have stT : StZ P.K P.T z ρk σ' H' Gk ρ2 σ2 H'' G' := cst.trans (tgs.toZ hz)
        have all1 := a.trans stT
        have all0 := a0.trans stT
        cases hd : denBl GD F z cbl ρ2 with
        | bad => rw [hd] at hl; exact hl.elim
        | exc c p => rw [hd] at hl; exact fun cls dd H3 xs q => hl cls dd H3 (xs.afterS all0.st) q
        | ok f =>
          rw [hd] at hl
          cases f with
          | nx ρ3 => exact fun σ3 H3 G3 s3 => ⟨by omega, ρ3, G3, all1.trans s3, hl, all0.trans s3⟩
          | ct ρ3 => exact fun σ3 H3 G3 s3 => ⟨by omega, ρ3, G3, all1.trans s3, hl, all0.trans s3⟩
          | bk ρ3 => exact fun σ3 H3 G3 s3 => hl σ3 H3 G3 (all0.trans s3)
          | rt fr d ρ3 => exact fun v σ3 H3 G3 s3 q => hl v σ3 H3 G3 (all0.trans s3) (RetOk.move all0.st q)
    · left
      have : i = ds.length := by omega
      subst this
      rw [List.drop_length] at hl
      exact ⟨gv.stop H' Gk a.st.sub a.st.sim.sub nokp, hl _ _ _ a0⟩
theorem ks_whl {c : Expr} {body : List Stmt} (hp : PassesOwn (model X.prog X.w) X.A X.env X.xe) (hc : PT X c (tB P E (denB GD F cc))) (hb : PSs X body (tS P E z (denBl GD F z cbl))) : PS X (.While c body [] pos) (tS P E z (denS GD F z (.whl cc cbl))) := by
  refine PS.mono (ps_while hp hc hb) fun D σ H ⟨ρ, G, s, h⟩ => ?_
  unfold denS at h
  refine ⟨fun m σ' H' => ∃ ρk Gk, Sim P.K P.T ρk σ' H' Gk ∧ EndS P E z σ' ρk H' Gk D (whlLoop (denB GD F cc) (denBl GD F z cbl) m ρk), ⟨most, ρ, G, s, h⟩, fun m σ' H' ⟨ρk, Gk, sk, hl⟩ => ?_⟩
  cases m with
  | zero => exact hl.elim
  | succ m =>
    unfold whlLoop at hl
    refine ⟨ρk, Gk, sk, hl.bindX fun x ρ1 H1 G1 st1 h1 => ?_⟩
    show if x = true then _ else _
    dsimp only at h1
    split at h1
    · rename_i hx
      rw [if_pos hx]
      refine ⟨fun σ' H' => ∃ ρk Gk, Sim P.K P.T ρk σ' H' Gk ∧ EndS P E z σ' ρk H' Gk D (whlLoop (denB GD F cc) (denBl GD F z cbl) m ρk), fun σ'' H'' y => ⟨m, Nat.lt_succ_self m, y⟩, ρ1, G1, st1.sim, ?_⟩
      have h1 := EndS.move st1.toZ h1
      cases hd : denBl GD F z cbl ρ1 with
      | bad => rw [hd] at h1; exact h1.elim
      | exc c p => rw [hd] at h1; exact h1
      | ok f =>
        rw [hd] at h1
        cases f with
        | nx ρ3 => exact fun σ3 H3 G3 s3 => ⟨ρ3, G3, s3.st.sim, EndS.move s3 h1⟩
        | ct ρ3 => exact fun σ3 H3 G3 s3 => ⟨ρ3, G3, s3.st.sim, EndS.move s3 h1⟩
        | bk ρ3 => exact h1
        | rt fr d ρ3 => exact h1
    · rename_i hx
      rw [if_neg hx]
      exact h1 _ _ _ st1.toZ
end
end Kn

end

section
/-! K, a, b = e, f; displays of dicts. -/
namespace Kn
open PySem PySem.Spec PyProof.Rows L2
/-- new objects of a row of values -/
def tmps : List RV → List V → List Addr
  | .tmp _ :: xs, .ref a :: vs => a :: tmps xs vs
  | _ :: xs, _ :: vs => tmps xs vs
  | _, _ => []
/-- a row of values, none read yet -/
inductive RVL (K : PySem.W.Frag) (ρ : Env) (σ : L2.St) (H₀ H G : Hp) : List RV → List V → Prop
  | nil : RVL K ρ σ H₀ H G [] []
  | cons {x : RV} {xs : List RV} {v : V} {vs : List V} (h : RVok K ρ σ H₀ H G v x) (r : RVL K ρ σ H₀ H G xs vs) : RVL K ρ σ H₀ H G (x :: xs) (v :: vs)
abbrev OkL (P : Pm) (σ : L2.St) (H : Hp) (Q : List V → Hp → Prop) : List RV → Env → Hp → Hp → Prop := fun xs ρ' H' G' => ∀ vs, RVL P.K ρ' σ H H' G' xs vs → (tmps xs vs).Nodup → Q vs H'
def tL (P : Pm) (E : XK) (f : Env → R (List RV × Env)) : TA := fun σ H Q => ∃ ρ G, Sim P.K P.T ρ σ H G ∧ EndX P E σ ρ H G (OkL P σ H Q) (f ρ)
section
variable {K : PySem.W.Frag} {T : List (Addr × Str)} {ρ ρ' ρ1 ρ2 ρ0 : Env} {σ σ' σ0 : L2.St} {H H' H1 H0 G G' G1 G2 G0 : Hp} {z : Bool}
theorem RVok.keep {v : V} {x : RV} (s0 : Sim K T ρ0 σ H0 G0) (a : StE K T σ ρ0 H0 G0 ρ1 H1 G1) (b : StE K T σ ρ1 H1 G1 ρ2 H' G') (h : RVok K ρ1 σ H0 H1 G1 v x) : RVok K ρ2 σ H0 H' G' v x := by
  cases x with
  | imm d => exact Rep.sub b.st.sub _ h
  | tmp d =>
    obtain ⟨l, o, e, h1, g, w, n⟩ := h
    have nw : ¬ Ow ρ1 σ l := fun y => n (a.h0 s0 l y)
    exact ⟨l, o, e, b.st.frame l o h1 (nt_mut w.mut) nw, b.st.gfr l o h1 w.mut g nw, w.sub b.st.sub, n⟩
  | slot i => exact h
theorem RVL.mono {xs : List RV} {vs : List V} (a : StE K T σ ρ0 H0 G0 ρ1 H1 G1) (h : RVL K ρ2 σ H1 H' G' xs vs) : RVL K ρ2 σ H0 H' G' xs vs := by
  induction h with
  | nil => exact .nil
  | cons h r ih => exact .cons (RVok.mono a h) ih
theorem tmps_fresh {xs : List RV} {vs : List V} (h : RVL K ρ σ H0 H G xs vs) : ∀ a, a ∈ tmps xs vs → ¬ Live H0 a := by
  induction h with
  | nil => intro a h; cases h
  | @cons x xs v vs h r ih =>
    intro a ha
    cases x with
    | tmp d =>
      obtain ⟨l, o, e, h1, g, w, n⟩ := h
      subst e
      rcases List.mem_cons.mp ha with rfl | ha
      · exact n
      · exact ih a ha
    | imm d => exact ih a (by cases v <;> exact ha)
    | slot i => exact ih a (by cases v <;> exact ha)
/-- what a slot is to get -/
def PVok (K : PySem.W.Frag) (H0 H G : Hp) (v : V) : PV → Prop
  | .imm d => Rep K G d v
  | .own d => ∃ a o, v = .ref a ∧ H a = some o ∧ G a = none ∧ OwnO K G d o ∧ ¬ Live H0 a
def ownA : List PV → List V → List Addr
  | .own _ :: ps, .ref a :: vs => a :: ownA ps vs
  | _ :: ps, _ :: vs => ownA ps vs
  | _, _ => []
inductive PVL (K : PySem.W.Frag) (H0 H G : Hp) : List PV → List V → Prop
  | nil : PVL K H0 H G [] []
  | cons {p : PV} {ps : List PV} {v : V} {vs : List V} (h : PVok K H0 H G v p) (r : PVL K H0 H G ps vs) : PVL K H0 H G (p :: ps) (v :: vs)
theorem RVL.keep {xs : List RV} {vs : List V} (s0 : Sim K T ρ0 σ H0 G0) (a : StE K T σ ρ0 H0 G0 ρ1 H1 G1) (b : StE K T σ ρ1 H1 G1 ρ2 H' G') (h : RVL K ρ1 σ H0 H1 G1 xs vs) : RVL K ρ2 σ H0 H' G' xs vs := by
  induction h with
  | nil => exact .nil
  | cons h r ih => exact .cons (RVok.keep s0 a b h) ih
theorem PVok.keep {p : PV} {v : V} (s0 : Sim K T ρ0 σ H0 G0) (a : StE K T σ ρ0 H0 G0 ρ1 H1 G1) (b : StE K T σ ρ1 H1 G1 ρ2 H' G') (h : PVok K H0 H1 G1 v p) : PVok K H0 H' G' v p := by
  cases p with
  | imm d => exact Rep.sub b.st.sub _ h
  | own d =>
    obtain ⟨l, o, e, h1, g, w, n⟩ := h
    have nw : ¬ Ow ρ1 σ l := fun y => n (a.h0 s0 l y)
    exact ⟨l, o, e, b.st.frame l o h1 (nt_mut w.mut) nw, b.st.gfr l o h1 w.mut g nw, w.sub b.st.sub, n⟩
theorem res_step {x : RV} {v : V} {p : PV × Env} (s0 : Sim K T ρ0 σ H0 G0) (a : StE K T σ ρ0 H0 G0 ρ1 H1 G1) (h : RVok K ρ1 σ H0 H1 G1 v x) (e : res ρ1 x = some p) :
    ∃ G3, StE K T σ ρ1 H1 G1 p.2 H1 G3 ∧ PVok K H0 H1 G3 v p.1 ∧ ∀ vs ps xs, ownA ps vs = tmps xs vs → ownA (p.1 :: ps) (v :: vs) = tmps (x :: xs) (v :: vs) := by
  cases x with
  | imm d =>
    cases e
    refine ⟨G1, .refl a.sim, h, fun vs ps xs q => ?_⟩
    cases v <;> exact q
  | tmp d =>
    cases e
    refine ⟨G1, .refl a.sim, h, fun vs ps xs q => ?_⟩
    cases v with
    | ref l => exact congrArg (l :: ·) q
    | _ => exact q
  | slot i =>
    obtain ⟨w, e4, e5⟩ := Option.map_eq_some_iff.mp e
    cases e5
    obtain ⟨G4, st4, r4, sub4⟩ := fz_ok a.sim (StE.refl a.sim) (x := .slot i) (v := v) (H₀ := H1) (G₀ := G1) h (show fz ρ1 (.slot i) = some (w.1, w.2) from e4)
    refine ⟨G4, st4, r4, fun vs ps xs q => ?_⟩
    cases v <;> exact q
theorem resAll_ok (s0 : Sim K T ρ0 σ H0 G0) : ∀ {xs : List RV} {vs : List V} {ρ1 : Env} {G1 : Hp} {ps : List PV} {ρ2 : Env}, StE K T σ ρ0 H0 G0 ρ1 H1 G1 → RVL K ρ1 σ H0 H1 G1 xs vs → resAll xs ρ1 = some (ps, ρ2) →
    ∃ G2, StE K T σ ρ1 H1 G1 ρ2 H1 G2 ∧ PVL K H0 H1 G2 ps vs ∧ ownA ps vs = tmps xs vs
  | [], _, ρ1, G1, ps, ρ2, a, r, e => by cases r; cases e; exact ⟨G1, .refl a.sim, .nil, rfl⟩
  | x :: xs, _, ρ1, G1, ps, ρ2, a, r, e => by
    cases r with
    | @cons _ _ v vs h r =>
      simp only [resAll] at e
      obtain ⟨p, e1, e⟩ := Option.bind_eq_some_iff.mp e
      obtain ⟨q, e2, e3⟩ := Option.map_eq_some_iff.mp e
      cases e3
      obtain ⟨G3, st3, pv, hx⟩ := res_step s0 a h e1
      obtain ⟨G2, st2, pl, eo⟩ := resAll_ok s0 (a.trans st3) (RVL.keep s0 a st3 r) e2
      exact ⟨G2, st3.trans st2, .cons (PVok.keep s0 (a.trans st3) st2 pv) pl, hx _ _ _ eo⟩
def setAll : L2.St → List Nat → List V → L2.St
  | σ, i :: is, v :: vs => setAll (σ.set i (some v)) is vs
  | σ, _, _ => σ
theorem setVs_ok : ∀ {is : List Nat} {ps : List PV} {vs : List V} {ρ σ}, Stp K T ρ0 σ0 H0 G0 ρ σ H G → PVL K H0 H G ps vs → (∀ a, a ∈ ownA ps vs → ¬ Ow ρ σ a) → (ownA ps vs).Nodup → setVs z is ps ρ = some ρ' →
    Stp K T ρ0 σ0 H0 G0 ρ' (setAll σ is vs) H G ∧ (z = true → (setAll σ is vs)[(0 : Nat)]? = σ[(0 : Nat)]?) ∧ vs.length = is.length
  | [], [], vs, ρ, σ, st, pl, nw, nd, e => by
    cases pl
    cases e
    exact ⟨st, fun _ => rfl, rfl⟩
  | [], _ :: _, vs, ρ, σ, st, pl, nw, nd, e => by cases e
  | _ :: _, [], vs, ρ, σ, st, pl, nw, nd, e => by cases e
  | i :: is, p :: ps, _, ρ, σ, st, pl, nw, nd, e => by
    cases pl with
    | @cons _ _ v vs h pl =>
      simp only [setVs] at e
      obtain ⟨ρ1, e1, e2⟩ := Option.bind_eq_some_iff.mp e
      unfold setV at e1
      split at e1
      · cases e1
      · rename_i hc
        cases e1
        have hc : ((z && i == 0) || decide (ρ.length ≤ i)) = false := Bool.eq_false_iff.mpr hc
        rw [Bool.or_eq_false_iff] at hc
        have hi : i < ρ.length := Nat.lt_of_not_le (of_decide_eq_false hc.2)
        have h0 : z = true → (σ.set i (some v))[(0 : Nat)]? = σ[(0 : Nat)]? := fun hz => by
          have : i ≠ 0 := fun e => by rw [hz, e] at hc; cases hc.1
          rw [List.getElem?_set_ne this]
        have hi' : i < σ.length := by rw [← st.sim.len]; exact hi
        cases p with
        | imm d =>
          have e0 : ownA (.imm d :: ps) (v :: vs) = ownA ps vs := by cases v <;> rfl
          rw [e0] at nw nd
          have r := setVs_ok (st.trans (Stp.setI st.sim hi h)) pl (fun a ha y => nw a ha (setI_ow y)) nd e2
          exact ⟨r.1, fun hz => (r.2.1 hz).trans (h0 hz), by rw [List.length_cons, List.length_cons, r.2.2]⟩
        | own d =>
          obtain ⟨l, o, ev, h1, g, w, n⟩ := h
          subst ev
          have e0 : ownA (.own d :: ps) (.ref l :: vs) = l :: ownA ps vs := rfl
          rw [e0] at nw nd
          rw [List.nodup_cons] at nd
          have r := setVs_ok (Stp.setO st hi n h1 g w (nw l (List.mem_cons_self ..))) pl (fun a ha y => ?_) nd.2 e2
          · exact ⟨r.1, fun hz => (r.2.1 hz).trans (h0 hz), by rw [List.length_cons, List.length_cons, r.2.2]⟩
          · obtain ⟨j, e3, q, hv⟩ := y
            rcases isO_set q with ⟨ej, _, _⟩ | ⟨hj, q⟩
            · rw [ej] at hv
              unfold IsV at hv
              rw [List.getElem?_set_self hi'] at hv
              have e4 : V.ref l = V.ref a := Option.some.inj (Option.some.inj hv)
              cases e4
              exact nd.1 ha
            · unfold IsV at hv
              rw [List.getElem?_set_ne (Ne.symm hj)] at hv
              exact nw a (List.mem_cons_of_mem _ ha) ⟨j, e3, q, hv⟩
end
section
variable {X : Cx} {P : Pm} {E : XK} {GD : Nat → D} {F : Nat → Fn} {z : Bool} {pos : Pos} {a b c e : Expr} {ca cb cc ce : CE} {es : List Expr} {cs : CL}
theorem ka_L0 : PA X [] (tL P E (denL GD F .nil)) := PA.mono pa_nil fun σ H Q ⟨ρ, G, s, h⟩ => by
  unfold denL at h
  exact h.ok s [] .nil List.nodup_nil
theorem ka_L (ha : PE X e (tE P E (den GD F ce))) (hr : PA X es (tL P E (denL GD F cs))) (hs : starEach (e :: es) X.env = (false, eval e X.env) :: starEach es X.env := by rfl) : PA X (e :: es) (tL P E (denL GD F (.cons ce cs))) := by
  refine PA.mono (pa_cons ha hr hs) fun σ H Q ⟨ρ, G, s, h⟩ => ?_
  unfold denL at h
  refine ⟨ρ, G, s, h.bind fun x ρ1 H1 G1 st1 h1 v rv => ?_⟩
  refine ⟨ρ1, G1, st1.sim, h1.bind fun xs ρ2 H2 G2 st2 h2 vs rs nd => ?_⟩
  refine h2.ok st2.sim _ (.cons (RVok.keep s st1 st2 rv) (RVL.mono st1 rs)) ?_
  cases x with
  | tmp d =>
    obtain ⟨l, o, ev, h1', g, w, n⟩ := rv
    subst ev
    refine List.nodup_cons.mpr ⟨fun hm => tmps_fresh rs l hm ⟨o, h1', nt_mut w.mut⟩, nd⟩
  | imm d => cases v <;> exact nd
  | slot i => cases v <;> exact nd
/-- the stores behind a row of values -/
theorem par_main {is : List Nat} {D : Ends} {σ : L2.St} {H : Hp} {H' : List V → Hp → Hp → Prop} (hH : ∀ vs H1 H2, H' vs H1 H2 → (H2 = H1 ∨ ∃ p, H1 p = none ∧ H2 = upd H1 p (.tup vs))) (h : tS P E z (denS GD F z (.par is cs)) D σ H) :
    tL P E (denL GD F cs) σ H fun vs H1 => vs.length = is.length ∧ ∀ H2, H' vs H1 H2 → D.nx (setAll σ is vs) H2 := by
  obtain ⟨ρ, G, s, h⟩ := h
  unfold denS at h
  refine ⟨ρ, G, s, h.bindX fun xs ρ1 H1 G1 st1 h1 vs rs nd => ?_⟩
  obtain ⟨p, e1, h1⟩ := h1.of
  obtain ⟨ρ', e2, h1⟩ := h1.of
  obtain ⟨G2, st2, pl, eo⟩ := resAll_ok s st1 rs (show resAll xs ρ1 = some (p.1, p.2) from e1)
  have st12 := st1.trans st2
  have r := setVs_ok st12.st pl (fun a ha y => by rw [eo] at ha; exact tmps_fresh rs a ha (st12.h0 s a y)) (by rw [eo]; exact nd) e2
  refine ⟨r.2.2, fun H2 hh => ?_⟩
  rcases hH vs H1 H2 hh with e | ⟨q, nq, e⟩
  · subst e
    exact h1 _ _ _ ⟨r.1, r.2.1⟩
  · subst e
    have c : Cst P.K P.T H1 G2 (upd H1 q (.tup vs)) G2 := .new r.1.sim.gd nq
    exact h1 _ _ _ (StZ.trans ⟨r.1, r.2.1⟩ (c.ste r.1.sim).toZ)
theorem tL.imp {f : Env → R (List RV × Env)} {σ : L2.St} {H : Hp} {Q Q' : List V → Hp → Prop} (h : tL P E f σ H Q) (k : ∀ vs H1, Q vs H1 → Q' vs H1) : tL P E f σ H Q' := by
  obtain ⟨ρ, G, s, h⟩ := h
  exact ⟨ρ, G, s, h.imp fun xs ρ1 H1 G1 st1 q vs rs nd => k _ _ (q vs rs nd)⟩
theorem ks_par2 {i j : Nat} {x y : Str} {px py pt : Pos} {kt k2 : Nat} {pt2 : Pos} (hc : X.calm = true) (hN : X.N.Nodup) (hi : X.N[i]? = some x) (hj : X.N[j]? = some y) (hij : i ≠ j) (hx : X.env.scope.names.lookup x = some .local) (hy : X.env.scope.names.lookup y = some .local) (ha : PA X [a, b] (tL P E (denL GD F cs)))
    (hw : swappedStores [.Tuple [.Name x px, .Name y py] kt pt] (.Tuple [a, b] k2 pt2) X.env = pure (some [x, y])) (hs : swapsWithSole [.Tuple [.Name x px, .Name y py] kt pt] (.Tuple [a, b] k2 pt2) pos.line X.env = pure false := by rfl) :
    PS X (.Assign [.Tuple [.Name x px, .Name y py] kt pt] (.Tuple [a, b] k2 pt2) pos) (tS P E z (denS GD F z (.par [i, j] cs))) := by
  refine PS.mono (ps_par hc hN hi hj hij hx hy ha hw hs) fun D σ H h => ?_
  refine tL.imp (par_main (H' := fun _ H1 H2 => H2 = H1) (fun _ _ _ e => .inl e) h) fun vs H1 ⟨hl, q⟩ => ?_
  match vs, hl with
  | [v, w], _ => exact ⟨v, w, rfl, q H1 rfl⟩
theorem ks_par3 {i j l : Nat} {x y w : Str} {px py pw pt : Pos} {kt k2 : Nat} {pt2 : Pos} (hc : X.calm = true) (hN : X.N.Nodup) (hi : X.N[i]? = some x) (hj : X.N[j]? = some y) (hl : X.N[l]? = some w) (hij : i ≠ j) (hil : i ≠ l) (hjl : j ≠ l) (hx : X.env.scope.names.lookup x = some .local) (hy : X.env.scope.names.lookup y = some .local)
    (hz : X.env.scope.names.lookup w = some .local) (ha : PA X [a, b, c] (tL P E (denL GD F cs))) (hw : swappedStores [.Tuple [.Name x px, .Name y py, .Name w pw] kt pt] (.Tuple [a, b, c] k2 pt2) X.env = pure (some [x, y, w]))
    (hs : swapsWithSole [.Tuple [.Name x px, .Name y py, .Name w pw] kt pt] (.Tuple [a, b, c] k2 pt2) pos.line X.env = pure false := by rfl) :
    PS X (.Assign [.Tuple [.Name x px, .Name y py, .Name w pw] kt pt] (.Tuple [a, b, c] k2 pt2) pos) (tS P E z (denS GD F z (.par [i, j, l] cs))) := by
  refine PS.mono (ps_par3 hc hN hi hj hl hij hil hjl hx hy hz ha hw hs) fun D σ H h => ?_
  refine tL.imp (par_main (H' := fun _ H1 H2 => H2 = H1) (fun _ _ _ e => .inl e) h) fun vs H1 ⟨hl, q⟩ => ?_
  match vs, hl with
  | [v, w, u], _ => exact ⟨v, w, u, rfl, q H1 rfl⟩
/-- the names of a row of targets -/
def gNames : List Nat → L2.TGs
  | [] => gNil
  | i :: is => gCons (gName i) (gNames is)
theorem gNames_ok {D : L2.St → Hp → Prop} : ∀ {is : List Nat} {vs : List V} {σ : L2.St} {H : Hp}, vs.length = is.length → D (setAll σ is vs) H → gNames is vs σ H D
  | [], [], σ, H, _, h => ⟨rfl, h⟩
  | [], _ :: _, _, _, e, _ => by cases e
  | _ :: _, [], _, _, e, _ => by cases e
  | i :: is, v :: vs, σ, H, e, h => ⟨v, vs, rfl, gNames_ok (is := is) (by simpa using e) h⟩
theorem kn_nil : PGs X [] (gNames []) := pgs_nil
theorem kn_cons {i : Nat} {x : Str} {px : Pos} {ns : List Expr} {is : List Nat} (hN : X.N.Nodup) (hi : X.N[i]? = some x) (hx : Loc X.env.scope x) (r : PGs X ns (gNames is)) (hf : X.fn x = true ∨ X.env.scope.names.lookup x = some .local := by first | exact .inl rfl | exact .inr rfl | assumption)
    (hs : (assignEach (.Name x px :: ns) X.env).map (·.2) = assign (.Name x px) X.env :: (assignEach ns X.env).map (·.2) := by rfl) : PGs X (.Name x px :: ns) (gNames (i :: is)) := pgs_cons (pg_name hN hi hx hf) r hs
/-- through the tuple -/
theorem ks_parT {ns : List Expr} {is : List Nat} {kt k2 : Nat} {pt pt2 : Pos} (hK : P.K = X.K) (hc : X.calm = true) (ha : PA X es (tL P E (denL GD F cs))) (hg : PGs X ns (gNames is)) (hlen : is.length ≤ 1000 := by decide) (hn : (assignEach ns X.env).length = is.length := by rfl) (hst : (assignEach ns X.env).findIdx? (·.1) = none := by rfl)
    (hs : swapsWithSole [.Tuple ns kt pt] (.Tuple es k2 pt2) pos.line X.env = pure false := by rfl) (hw : swappedStores [.Tuple ns kt pt] (.Tuple es k2 pt2) X.env = pure none := by rfl) (h1 : (assignEach [.Tuple ns kt pt] X.env).map (·.2) = [assign (.Tuple ns kt pt) X.env] := by rfl) :
    PS X (.Assign [.Tuple ns kt pt] (.Tuple es k2 pt2) pos) (tS P E z (denS GD F z (.par is cs))) := by
  refine PS.mono (ps_asg (pe_tup ha) (pg_tup (n := is.length) hc hg hn hst) hs hw h1) fun D σ H h => ?_
  refine tL.imp (par_main (H' := fun vs H1 H2 => ∃ p, H1 p = none ∧ H2 = upd H1 p (.tup vs)) (fun _ _ _ e => .inr e) h) fun vs H1 ⟨hl, q⟩ => ⟨by rw [hl, sizeLine_eq]; omega, fun p np => ?_⟩
  exact ⟨p, vs, rfl, .inl (.inl upd_same), hl, gNames_ok hl (q _ ⟨p, np, rfl⟩)⟩
/-! ### {k: v, ..} -/
def CP.len : CP → Nat
  | .nil => 0
  | .cons _ _ r => r.len + 1
def pairT (P : Pm) (E : XK) (GD : Nat → D) (F : Nat → Fn) : CP → List (TE × TE)
  | .nil => []
  | .cons k v r => (tE P E (den GD F k), tE P E (den GD F v)) :: pairT P E GD F r
theorem pairs_ok {σ : L2.St} : ∀ (cp : CP) {ρ : Env} {H G : Hp} {ks ws : List D} {acc : List (Key × V)} {Q : List (V × V) → Hp → Prop}, Sim P.K P.T ρ σ H G → IsK P.K G ks ws acc →
    EndX P E σ ρ H G (fun x _ H' G' => ∀ kvs : List (Key × V), kvs.length = cp.len → IsK P.K G' x.1 x.2 (mergeK acc kvs) → Q (kvs.map fun kv => (kV kv.1, kv.2)) H') (denD GD F cp ρ ks ws) → tPairs (pairT P E GD F cp) σ H Q
  | .nil, ρ, H, G, ks, ws, acc, Q, s, isk, h => by
    unfold denD at h
    exact h.ok s [] rfl isk
  | .cons k v r, ρ, H, G, ks, ws, acc, Q, s, isk, h => by
    unfold denD at h
    refine ⟨ρ, G, s, h.bindS fun x ρ1 H1 G1 _ st1 h1 u ru => ?_⟩
    obtain ⟨z, e1, h1⟩ := h1.of
    obtain ⟨G2, st2, r2, _⟩ := fz_ok s st1 ru e1
    have h1 := h1.move st2
    refine ⟨z.2, G2, st2.sim, h1.bindS fun x' ρ3 H3 G3 _ st3 h3 w rw' => ?_⟩
    obtain ⟨z', e2, h3⟩ := h3.of
    obtain ⟨G4, st4, r4, _⟩ := fz_ok st2.sim st3 rw' e2
    have h3 := h3.move st4
    split at h3
    · rename_i hk
      obtain ⟨ek, ok⟩ := rep_key hk r2
      have isk' := (isk.sub (st2.st.sub.trans st4.st.sub)).put hk ok r4
      refine pairs_ok r st4.sim isk' (h3.imp fun y ρ5 H5 G5 st5 q kvs hl isk5 => ?_)
      have z := q ((keyOf z.1, w) :: kvs) (by rw [List.length_cons, hl]; rfl) isk5
      rw [List.map_cons] at z
      rw [ek]
      exact z
    · exact h3.elim
theorem ke_dic {keys : List (Option Expr)} {values : List Expr} {cp : CP} (h : PPs X pos keys values (pairT P E GD F cp)) (hall : keys.all (·.isSome) = true := by rfl) (hl : keys.length = values.length := by rfl) (h0 : keys ≠ [] := by simp) (h15 : keys.length ≤ 15 := by decide) (hc15 : cp.len ≤ 15 := by decide) :
    PE X (.Dict keys values pos) (tE P E (den GD F (.dic cp))) := by
  refine PE.mono (pe_disp h hall hl h0 h15) fun σ H Q ⟨ρ, G, s, h⟩ => ?_
  unfold den at h
  intro p np
  have c : Cst P.K P.T H G (upd H p (.dK [])) G := .new s.gd np
  have st0 := c.ste s
  have np' : ¬ Ow ρ σ p := fun y => by
    obtain ⟨o, e, _⟩ := Ow.ne s y
    rw [np] at e
    cases e
  refine pairs_ok cp st0.sim (IsK.nil) ?_
  revert h
  cases q : denD GD F cp ρ [] [] with
  | bad => exact fun h => h
  | exc c p => exact fun h cls dd H' x xc => h cls dd H' (x.after st0) xc
  | ok x =>
    intro h H' G' st kvs hlen isk
    have hp : H' p = some (.dK []) := st.st.frame p _ upd_same (fun ps z => by cases z) np'
    have gp : G' p = none := st.st.gfr p _ upd_same trivial (gnone s.sub np) np'
    refine ⟨hp, kvs, rfl, by rw [hlen]; exact hc15, ?_⟩
    have put := StE.put s (st0.trans st) np gp (o := .dK (mergeK [] kvs)) (fun ps z => by cases z) (fun ps z => by rw [hp] at z; cases z) (fun q z => by rw [hp] at z; cases z)
    have h2 : EndX P E σ ρ H G (OkE P σ H Q) (.ok (.tmp (.dic x.1.1 x.1.2), x.2)) := h
    exact h2 _ _ put _ ⟨p, _, rfl, upd_same, gp, isk.own, not_live np⟩
end
end Kn

end

section
/-! K, _law_told(lambda: ..). -/
namespace Kn
open PySem PySem.Spec PyProof.Rows L2
section
variable {K : PySem.W.Frag} {T : List (Addr × Str)} {P : Pm} {ρ ρ' ρ1 ρ2 : Env} {σ : L2.St} {H H' H1 G G' G1 : Hp}
theorem fzAll_ok (s : Sim K T ρ σ H G) : ∀ vs : List Nat, ∃ G', StE K T σ ρ H G (fzAll ρ vs) H G'
  | [] => ⟨G, .refl s⟩
  | v :: vs => by
    obtain ⟨G', st⟩ := fzAll_ok s vs
    unfold fzAll
    split
    · rename_i d q
      obtain ⟨a, o, e, g, ha, w⟩ := st.sim.own v d q
      have e2 : fz (fzAll ρ vs) (.slot v) = some (d, (fzAll ρ vs).set v (some (.imm d))) := by
        show (match (fzAll ρ vs)[v]? with
          | some (some (.own d)) => some (d, (fzAll ρ vs).set v (some (.imm d)))
          | some (some (.imm d)) => some (d, (fzAll ρ vs))
          | _ => none) = _
        rw [q]
      obtain ⟨G2, st2, _⟩ := fz_ok s st (v := .ref a) (x := .slot v) ⟨e, trivial⟩ e2
      exact ⟨G2, st2⟩
    · exact ⟨G', st⟩
theorem isO_mask {i : Nat} {d : D} : ¬ IsO (mask ρ) i d := fun h => by
  unfold IsO mask at h
  rw [List.getElem?_map] at h
  cases q : ρ[i]? with
  | none => rw [q] at h; cases h
  | some o =>
    rw [q] at h
    cases o with
    | none => cases h
    | some p => cases p <;> cases h
theorem isI_mask {i : Nat} {d : D} (h : IsI (mask ρ) i d) : IsI ρ i d := by
  unfold IsI mask at h
  unfold IsI
  rw [List.getElem?_map] at h
  cases q : ρ[i]? with
  | none => rw [q] at h; cases h
  | some o =>
    rw [q] at h
    cases o with
    | none => cases h
    | some p => cases p with
      | imm e => exact h
      | own e => cases h
theorem mask_ow {b : Addr} : ¬ Ow (mask ρ) σ b := fun ⟨_, _, h, _⟩ => isO_mask h
theorem Sim.mask (s : Sim K T ρ σ H G) : Sim K T (mask ρ) σ H G :=
  ⟨by unfold Kn.mask; rw [List.length_map]; exact s.len, s.sub, s.gnt, fun i d h => s.imm i d (isI_mask h), fun i d h => (isO_mask h).elim, fun i j d e a h => (isO_mask h).elim, s.tabs⟩
/-- all but the tables stay -/
theorem Sim.ext (s : Sim K T ρ σ H G) (x : LamX.ExtN H H1) (t : LamX.Tabs T H1) : StE K T σ ρ H G ρ H1 G := by
  have sub : SubH G H1 := fun b o q => by
    have n := s.gnt b o q
    rcases s.sub b o q with h | ⟨hd, ob, h⟩
    · exact .inl (x b o h n)
    · exact .inr ⟨hd, ob, x b _ h fun ps z => by cases z⟩
  exact ⟨⟨⟨s.len, sub, s.gnt, s.imm, fun i d q => let ⟨a, o, e, g, h, w⟩ := s.own i d q; ⟨a, o, e, g, x a o h (nt_mut w.mut), w⟩, s.dis, t⟩, Sub.refl G, fun b o h n _ => x b o h n, fun _ _ _ _ h _ => h, fun _ h => .inl h, fun b ⟨o, h, n⟩ => ⟨o, x b o h n, n⟩, rfl⟩, fun _ d h => ⟨d, h⟩⟩
/-- a step that saw no own object -/
theorem StE.unmask (s : Sim K T ρ σ H G) (frame : ∀ b o, H b = some o → nt o → H' b = some o) (gfr : ∀ b o, H b = some o → Mut (some o) → G b = none → G' b = none) (sub : Sub G G') (subH : SubH G' H') (gnt : ∀ b o, G' b = some o → nt o) (mono : ∀ b, Live H b → Live H' b) (t : LamX.Tabs T H') : StE K T σ ρ H G ρ H' G' :=
  Cst.ste s ⟨sub, subH, gnt, frame, gfr, mono, t⟩
end
/-- told: try: return a() / except e: return (r1, r2) -/
def TT0 (K : PySem.W.Frag) (CS : Addr) (r1 r2 : Str) : (XK → Hp → VK → Prop) → Hp → VK → Prop := fun tl H Q =>
  tl (fun cls _ H' => ∃ b, PySem.W.exmOne K cls (.ref CS) = some b ∧ (b = true → ∀ p, H' p = none → Q (.ref p) (upd H' p (.tup [.str r1, .str r2]))) ∧ (b = false → False)) H Q
theorem told0_gives {X : Cx} {Ng : List Str} {x a e q r1 r2 : Str} {sg : Scope} {g CS : Addr} {cdg : Value} {j1 j2 kt : Nat} {p1 p2 p3 p4 p5 p6 p7 p8 q1 q2 : Pos} (hge : sg.names.lookup e = some .globalImplicit) (hme : X.mg e = some (.ref CS)) (hde : (e == ("__debug__" : Str)) = false) (h0 : ∀ f : Addr, (L2.start Ng [V.ref f])[0]? = some (some (V.ref f))) :
    LamX.GivesTo X Ng x sg g cdg [.Try [.Return (some (.Call (.Name a p1) [] [] p2)) p3] [.ExceptHandler (some (.Name e p4)) none [.Return (some (.Tuple [.Constant (.str r1) j1 q1, .Constant (.str r2) j2 q2] kt p5)) p6] p7] [] [] p8] a q (TT0 X.K CS r1 r2) := by
  intro f c' s H Q tl act hc h
  have hgl : Gl (cxOf C8.CX0 X.prog X.w X.K X.mg X.base Ng x sg g cdg X.A X.stack s H C8.E0).nox e := hge
  refine ⟨_, pss_one (ps_try_only (X := (cxOf C8.CX0 X.prog X.w X.K X.mg X.base Ng x sg g cdg X.A X.stack s H C8.E0).nox) (c := .ref CS)
      (tb := fun W D σ H => ∃ Ech : XK, (∀ cls d σ' H', Ech cls d H' → W cls d σ' H') ∧ σ[0]? = some (some (.ref f)) ∧ H c' = some (LamX.CodeO c' q) ∧ tl Ech H D.rt)
      rfl rfl ⟨hgl, hde, .inl hme⟩ LamX.takes0 (fun W pn xe tk _ => ?_) (fun a oe cls d pn _ _ => pss_one (ps_ret (pe_tup (pa_cons pe_str (pa_cons pe_str pa_nil)))))), ?_⟩
  · refine ⟨fun pins s' σ H' D I h' => ?_⟩
    obtain ⟨Ech, hW, h1, h2, h3⟩ := h'
    have hp := act W pn xe Ech p1 p2 tk hW
    have hq := pss_one (ps_ret (pos := p3) hp)
    exact hq.run pins s' σ H' D I ⟨h1, h2, h3⟩
  · exact ⟨fun cls _ H' => ∃ b, PySem.W.exmOne X.K cls (.ref CS) = some b ∧ (b = true → ∀ p, H' p = none → Q (.ref p) (upd H' p (.tup [.str r1, .str r2]))) ∧ (b = false → False),
      fun cls d σ' H' ⟨b, e1, e2, e3⟩ => ⟨b, e1, fun hb a _ => ⟨by show 2 ≤ sizeLine; decide, e2 hb⟩, fun hb => (e3 hb).elim⟩, h0 f, hc, h⟩
/-- the def _law_told of the first kind, as it stands -/
structure Told0 (K : PySem.W.Frag) (mg : Str → Option Value) (st : Stmt) (CS : Addr) : Prop where
  ex : ∃ (g : Addr) (fd : FuncData), mg "_law_told" = some (.ref g) ∧ FunD K "_law_told" "_law_told" (defArgs st) (defBody st) (defScope st) [] [] g fd ∧ Binds K fd ["action"] []
  cls : mg "NoSuchThing" = some (.ref CS)
section
variable {X : Cx} {P : Pm} {E : XK} {GD : Nat → D} {F : Nat → Fn} {pos : Pos} {ce : CE} {fv : List Nat}
theorem told0_main {CS : Addr} (hXC : ∀ p cls dd H', P.XC 0 p cls dd H' → PySem.W.exmOne X.K cls (.ref CS) = some true) : ∀ σ H Q, tE P E (den GD F (.told 0 fv ce)) σ H Q → LamX.tLam P.T (TT0 X.K CS (txS [33]) (txS [110, 111, 110, 101])) (fun E' => tE P E' (den GD F ce)) σ H Q := by
  intro σ H Q ⟨ρ, G, s, h⟩
  unfold den at h
  refine ⟨s.tabs, fun H1 x1 t1 => ?_⟩
  obtain ⟨G', stA⟩ := fzAll_ok s fv
  have stB := stA.trans (stA.sim.ext x1 t1)
  refine ⟨mask (fzAll ρ fv), G', stB.sim.mask, ?_⟩
  cases q : den GD F ce (mask (fzAll ρ fv)) with
  | bad => rw [q] at h; exact h.elim
  | ok x =>
    rw [q] at h
    have h : EndX P E σ ρ H G (OkE P σ H Q) (match fz x.2 x.1 with
      | some z => .ok (.imm z.1, fzAll ρ fv)
      | none => .bad) := h
    intro H2 G2 st2 v rv
    cases qz : fz x.2 x.1 with
    | none => rw [qz] at h; exact h.elim
    | some z =>
      rw [qz] at h
      obtain ⟨G3, st3, r3, _⟩ := fz_ok stB.sim.mask st2 rv qz
      have un := StE.unmask stB.sim (fun b o e n => st3.st.frame b o e n mask_ow) (fun b o e m g => st3.st.gfr b o e m g mask_ow) st3.st.sub st3.sim.sub st3.sim.gnt st3.st.mono st3.sim.tabs
      exact h _ _ (stB.trans un) v r3
  | exc c p =>
    rw [q] at h
    have h : EndX P E σ ρ H G (OkE P σ H Q) (match toldEx 0 c p with
      | some d => .ok (.imm d, fzAll ρ fv)
      | none => .bad) := h
    intro cls dd H' xs xc
    have c0 : c = 0 ∧ toldEx 0 c p = some (.tup [.str [33], .str [110, 111, 110, 101]]) := by
      cases c with
      | zero => exact ⟨rfl, rfl⟩
      | succ c => exact (h : False).elim
    obtain ⟨rfl, e0⟩ := c0
    rw [e0] at h
    refine ⟨true, hXC p cls dd H' xc, fun _ l nl => ?_, fun z => by cases z⟩
    have subH : SubH G' H' := fun b o q => by
      have n := stB.sim.gnt b o q
      rcases stB.sim.sub b o q with h | ⟨hd, ob, h⟩
      · exact .inl (xs.frame b o h n mask_ow)
      · exact .inr ⟨hd, ob, xs.frame b _ h (fun ps z => by cases z) mask_ow⟩
    have un := StE.unmask stB.sim (fun b o e n => xs.frame b o e n mask_ow) (fun b o e m g => g) (Sub.refl _) subH stB.sim.gnt xs.mono xs.tabs
    have c : Cst P.K P.T H' G' (upd H' l (.tup [.str (txS [33]), .str (txS [110, 111, 110, 101])])) (upd G' l (.tup [.str (txS [33]), .str (txS [110, 111, 110, 101])])) := .newG un.sim.gd nl fun ps z => by cases z
    refine h _ _ ((stB.trans un).trans (c.ste un.sim)) _ (rep_tup (.inl (.inl upd_same)) (.cons (rep_str (okT_iff.mpr (by decide))) (.cons (rep_str (okT_iff.mpr (by decide))) .nil)))
theorem ke_told0 {k : Nat} {st : Stmt} {CS c Pt : Addr} {j1 j2 kt : Nat} {p1 p2 p3 p4 p5 p6 p7 p8 q1 q2 : Pos} {params : Arguments} {body : Expr} {scope : Scope} {p lpos : Pos} (td : Told0 X.K X.mg st CS)
    (hXC : ∀ p cls dd H', P.XC 0 p cls dd H' → PySem.W.exmOne X.K cls (.ref CS) = some true)
    (hbd : defBody st = [.Try [.Return (some (.Call (.Name "action" p1) [] [] p2)) p3] [.ExceptHandler (some (.Name "NoSuchThing" p4)) none [.Return (some (.Tuple [.Constant (.str (txS [33])) j1 q1, .Constant (.str (txS [110, 111, 110, 101])) j2 q2] kt p5)) p6] p7] [] [] p8] := by rfl)
    (Sg : FnScope ["action"] ["action"] (defScope st)) (hge : (defScope st).names.lookup ("NoSuchThing" : Str) = some .globalImplicit := by decide +kernel) (hva : Vis (defScope st) ("action" : Str))
    (hg : Gl X "_law_told") (TB : LamX.TabB X.base X.mg c Pt) (hcode : X.env.code = .ref c) (hmT : (Pt, X.env.qual ++ "<lambda>") ∈ P.T) (hu : ∀ q ∈ P.T, q.1 = Pt → q.2 = X.env.qual ++ "<lambda>") (hr : Room (k + 2) X.A) (L : LamX.LamS X.env.scope scope)
    (hdef : defaultsOf params X.env = ([], []) := by rfl) (hbind : ∀ (q : Str) (cl : List (Str × Addr)) (pm cv ctv : Value), bindArgs (PySem.W.kla_fn "<lambda>" q params body scope cl pm cv ctv) ⟨[], []⟩ = pure [])
    (hbody : ∀ (A : Around) (outer : List PySem.Env) (s : Shared) (H : Hp) (E : XK) (f c' : Addr), Room k (A.deeper (LamX.lamEnv X scope s.heap.objs.size f c')) → PE (LamX.lamCx X A outer s H E scope f c') body (tE P E (den GD F ce))) :
    PE X (.Call (.Name "_law_told" p) [.Lambda params body scope lpos] [] pos) (tE P E (den GD F (.told 0 fv ce))) := by
  obtain ⟨g, fd, hm, FD, hb⟩ := td.ex
  obtain ⟨oc, od, dV, kV, doc, pm, an, cdv, ct, osl, efd, lk, hcg, _⟩ := FD.ex
  rw [efd] at lk hb
  have hG := told0_gives (X := X) (Ng := ["action"]) (x := "_law_told") (a := "action") (e := "NoSuchThing") (q := X.env.qual ++ "<lambda>") (r1 := txS [33]) (r2 := txS [110, 111, 110, 101]) (sg := defScope st) (g := g) (CS := CS) (cdg := cdv)
    (j1 := j1) (j2 := j2) (kt := kt) (p1 := p1) (p2 := p2) (p3 := p3) (p4 := p4) (p5 := p5) (p6 := p6) (p7 := p7) (p8 := p8) (q1 := q1) (q2 := q2) hge td.cls (by decide) (fun f => rfl)
  rw [← hbd] at hG
  exact PE.mono (LamX.pe_lamcall (t := fun E' => tE P E' (den GD F ce)) hg hm FD.kp lk hcg hb Sg rfl hva hG TB hcode hmT hu hr L hdef hbind hbody) (told0_main hXC)
end
end Kn

end

section
/-! K, a def by its core; the law's end. -/
namespace Kn
open PySem PySem.Spec PyProof.Rows L2
section
variable {P : Pm} {E : XK} {ρ ρ' : Env} {σ σ' : L2.St} {H H' G G' : Hp}
theorem startE_eq (io : Bool) (n : Nat) (ds : List D) : startE io n ds = argE io ds ++ List.replicate (n - ds.length) none := by
  cases ds with
  | nil => rfl
  | cons d ds => simp [startE, argE]
theorem app_get {α : Type} {l r : List (Option α)} {i : Nat} {x : α} (hr : ∀ j : Nat, r[j]? ≠ some (some x)) (h : (l ++ r)[i]? = some (some x)) : l[i]? = some (some x) := by
  by_cases hi : i < l.length
  · rw [List.getElem?_append_left hi] at h
    exact h
  · rw [List.getElem?_append_right (by omega)] at h
    exact (hr _ h).elim
theorem rep_none {α : Type} {n j : Nat} {x : α} : (List.replicate n (none : Option α))[j]? ≠ some (some x) := fun h => by
  have := List.mem_of_getElem? h
  rw [List.mem_replicate] at this
  cases this.2
theorem at_app {α : Type} {l r : List (Option α)} {i : Nat} {x : α} (h : l[i]? = some (some x)) : (l ++ r)[i]? = some (some x) := by
  obtain ⟨hi, _⟩ := List.getElem?_eq_some_iff.mp h
  rw [List.getElem?_append_left hi]
  exact h
theorem Sim.pad {K : PySem.W.Frag} {T : List (Addr × Str)} (s : Sim K T ρ σ H G) (n : Nat) : Sim K T (ρ ++ List.replicate n none) (σ ++ List.replicate n none) H G :=
  ⟨by rw [List.length_append, List.length_append, List.length_replicate, List.length_replicate, s.len], s.sub, s.gnt, fun i d h => let ⟨v, e, r⟩ := s.imm i d (app_get (fun _ => rep_none) h); ⟨v, at_app e, r⟩,
    fun i d h => let ⟨a, o, e, r⟩ := s.own i d (app_get (fun _ => rep_none) h); ⟨a, o, at_app e, r⟩, fun i j d e a h h' e1 e2 => s.dis i j d e a (app_get (fun _ => rep_none) h) (app_get (fun _ => rep_none) h') (app_get (fun _ => rep_none) e1) (app_get (fun _ => rep_none) e2), s.tabs⟩
theorem ow_pad {n m : Nat} {b : Addr} : Ow (ρ ++ List.replicate n none) (σ ++ List.replicate m none) b ↔ Ow ρ σ b :=
  ⟨fun ⟨i, d, h, e⟩ => ⟨i, d, app_get (fun _ => rep_none) h, app_get (fun _ => rep_none) e⟩, fun ⟨i, d, h, e⟩ => ⟨i, d, at_app h, at_app e⟩⟩
/-- the step of a whole def, among the arguments -/
theorem def_stp {io : Bool} {ds : List D} {vs : List V} {n m : Nat} {b : D} (s : Sim P.K P.T (argE io ds) (vs.map some) H G) (hne : io = true → ds ≠ []) (st : StZ P.K P.T io (argE io ds ++ List.replicate n none) (vs.map some ++ List.replicate m none) H G ρ' σ' H' G') (e : endE io ρ' = some b) :
    Stp P.K P.T (argE io ds) (vs.map some) H G (argE' io ds b) (vs.map some) H' G' := by
  have frame : ∀ c o, H c = some o → nt o → ¬ Ow (argE io ds) (vs.map some) c → H' c = some o := fun c o h k w => st.st.frame c o h k fun y => w (ow_pad.mp y)
  have gfr : ∀ c o, H c = some o → Mut (some o) → G c = none → ¬ Ow (argE io ds) (vs.map some) c → G' c = none := fun c o h k g w => st.st.gfr c o h k g fun y => w (ow_pad.mp y)
  cases io with
  | false =>
    refine ⟨⟨s.len, st.st.sim.sub, st.st.sim.gnt, fun i d h => ?_, fun i d h => (argE_own h).elim, fun i j d e a h => (argE_own h).elim, st.st.sim.tabs⟩, st.st.sub, frame, gfr, fun c y => .inl y, st.st.mono, rfl⟩
    obtain ⟨v, e1, r⟩ := s.imm i d h
    exact ⟨v, e1, Rep.sub st.st.sub _ r⟩
  | true =>
    cases ds with
    | nil => exact (hne rfl rfl).elim
    | cons d0 ds =>
      have e0 : IsO ρ' 0 b := by
        have e : (match ρ'[(0 : Nat)]? with
          | some (some (.own b)) => some b
          | _ => none) = some b := e
        split at e
        · rename_i b' q
          cases e
          exact q
        · cases e
      obtain ⟨a, o, ea, ga, ha, w⟩ := st.st.sim.own 0 b e0
      have z0 := st.zero rfl
      have ea0 : IsV (vs.map some) 0 (.ref a) := by
        have : (vs.map some ++ List.replicate m none)[(0 : Nat)]? = some (some (V.ref a)) := by rw [← z0]; exact ea
        exact app_get (fun _ => rep_none) this
      refine ⟨⟨s.len, st.st.sim.sub, st.st.sim.gnt, fun i d h => ?_, fun i d h => ?_, fun i j d e a h h' _ _ => by rw [(argE_own1 h).1, (argE_own1 h').1], st.st.sim.tabs⟩, st.st.sub, frame, gfr, fun c y => .inl ?_, st.st.mono, by show (argE true (b :: ds)).length = (argE true (d0 :: ds)).length; rw [argE_len, argE_len]; rfl⟩
      · obtain ⟨j, ej, hj⟩ := argE_imm1 h
        subst ej
        have h2 : IsI (argE true (d0 :: ds)) (j + 1) d := h
        obtain ⟨v, e1, r⟩ := s.imm (j + 1) d h2
        exact ⟨v, e1, Rep.sub st.st.sub _ r⟩
      · obtain ⟨e1, e2⟩ := argE_own1 h
        subst e1 e2
        exact ⟨a, o, ea0, ga, ha, w⟩
      · obtain ⟨i, d, h, hv⟩ := y
        obtain ⟨e1, e2⟩ := argE_own1 h
        subst e1 e2
        exact ⟨0, d0, rfl, hv⟩
end
/-- a def keeps its promise -/
theorem fn_ok {prog : Program} {w : World} {K : PySem.W.Frag} {mg : Str → Option Value} {base : Heap} {P : Pm} {GD : Nat → D} {Fs : Nat → Fn} {x : Str} {params : Arguments} {body : List Stmt} {scope : Scope} {f : Addr} {fd : FuncData} {N ps : List Str} {k : Nat} {cf : CF}
    (FD : FunD K x x params body scope [] [] f fd) (S : FnScope N ps scope) (hn : cf.n = N.length) (hps : cf.ps = ps.length) (hio : cf.io = true → ps ≠ [])
    (hbody : ∀ (cdv : Value) (A : Around) (outer : List PySem.Env) (s : Shared) (H : Hp) (E : XK), Room k (A.deeper (envOfC x scope s.heap.objs.size f cdv)) → (∀ p : He.Defn, He.fAd K p = f → cdv = .ref (He.codeOf K p)) →
      PSs (cxOf (L2.CX prog w) prog w K mg base N x scope f cdv A outer s H E) body (tS P E cf.io (denBl GD Fs cf.io cf.body))) :
    FnOk prog w K mg base (L2.CX prog w) (k + 1) f fd ps (spF P cf.io (runF GD Fs cf)) := by
  obtain ⟨oc, od, dV, kV, doc, pm, an, cdv, ct, osl, efd, lk, hcd, _⟩ := FD.ex
  have lenOf : ∀ vs H Q E, spF P cf.io (runF GD Fs cf) vs H Q E → ∃ ds G, Sim P.K P.T (argE cf.io ds) (vs.map some) H G ∧ ds.length = cf.ps ∧ cf.ps ≤ cf.n ∧ vs.length = ds.length := fun vs H Q E ⟨ds, G, s, h⟩ => by
    have hl : ds.length = cf.ps ∧ cf.ps ≤ cf.n := by
      by_cases hc : ds.length = cf.ps ∧ cf.ps ≤ cf.n
      · exact hc
      · unfold runF at h
        rw [if_neg hc] at h
        exact h.elim
    exact ⟨ds, G, s, hl.1, hl.2, by have := s.len; rw [argE_len, List.length_map] at this; exact this.symm⟩
  rw [efd] at lk ⊢
  refine L2.fn_of lk hcd S (fun vs H Q E h => ?_) (fun A outer s H vs Q E hr h => ⟨_, hbody cdv A outer s H E hr ?_, ?_⟩)
  · obtain ⟨ds, G, s, h1, h2, h3⟩ := lenOf vs H Q E h
    rw [h3, h1, hps]
  · intro p hp
    obtain ⟨c, ec⟩ := He.codeIn_ref hcd
    rw [ec, He.codeOf_eq (p := p) (c := c) (by rw [hp]; exact lk) ec]
  · obtain ⟨ds0, G0, s0, h1, h2, h3⟩ := lenOf vs H Q E h
    obtain ⟨ds, G, sm, h⟩ := h
    have hvl : vs.length = ds.length := by have := sm.len; rw [argE_len, List.length_map] at this; exact this.symm
    have hdl : ds.length = cf.ps := by rw [← hvl, h3, h1]
    have est : L2.start N vs = vs.map some ++ List.replicate (N.length - vs.length) none := rfl
    unfold runF at h
    rw [if_pos ⟨hdl, h2⟩, startE_eq] at h
    rw [est]
    have en : N.length - vs.length = cf.n - ds.length := by rw [hvl, hn]
    rw [en]
    have hne : cf.io = true → ds ≠ [] := fun hz e => by
      apply hio hz
      apply List.eq_nil_of_length_eq_zero
      rw [← hps, ← hdl, e]
      rfl
    refine ⟨_, G, sm.pad (cf.n - ds.length), ?_⟩
    revert h
    cases denBl GD Fs cf.io cf.body (argE cf.io ds ++ List.replicate (cf.n - ds.length) none) with
    | bad => exact fun h => h
    | exc c p => exact fun h cls dd H' xs xc => h cls dd H' ⟨fun b o e n wn => xs.frame b o e n fun y => wn (ow_pad.mp y), xs.mono, xs.tabs⟩ xc
    | ok r =>
      cases r with
      | bk ρ' => exact fun h => h.elim
      | ct ρ' => exact fun h => h.elim
      | nx ρ' =>
        intro h σ' H' G' st
        have h : match (R.of (endE cf.io ρ')).bind (fun b => R.ok ((false, D.non), b)) with
          | .ok r => ∀ v H' G', Stp P.K P.T (argE cf.io ds) (vs.map some) H G (argE' cf.io ds r.2) (vs.map some) H' G' → Got P.K H H' G' v (r.1.2, r.1.1) → Q v H'
          | .exc c p => ∀ cls dd H', XSt P (vs.map some) (argE cf.io ds) H H' → P.XC c p cls dd H' → E cls dd H'
          | .bad => False := h
        cases q : endE cf.io ρ' with
        | none => rw [q] at h; exact h.elim
        | some b =>
          rw [q] at h
          exact h .non H' G' (def_stp sm hne st q) (Got.imm (rep_non (K := P.K) (G := G')))
      | rt fr d ρ' =>
        intro h v σ' H' G' st rt
        have h : match (R.of (endE cf.io ρ')).bind (fun b => R.ok ((fr, d), b)) with
          | .ok r => ∀ v H' G', Stp P.K P.T (argE cf.io ds) (vs.map some) H G (argE' cf.io ds r.2) (vs.map some) H' G' → Got P.K H H' G' v (r.1.2, r.1.1) → Q v H'
          | .exc c p => ∀ cls dd H', XSt P (vs.map some) (argE cf.io ds) H H' → P.XC c p cls dd H' → E cls dd H'
          | .bad => False := h
        cases q : endE cf.io ρ' with
        | none => rw [q] at h; exact h.elim
        | some b =>
          rw [q] at h
          have ds_st := def_stp sm hne st q
          refine h v H' G' ds_st ?_
          unfold RetOk at rt
          unfold Got
          split at rt
          · rename_i hf
            rw [if_pos hf]
            obtain ⟨a, o, e, h1', g, w', x, n⟩ := rt
            refine ⟨a, o, e, h1', g, w', ?_⟩
            rcases x with x | x
            · have x := ow_pad.mp x
              exfalso
              cases hz : cf.io with
              | false => rw [hz] at x; exact args_ow x
              | true =>
                rw [hz] at x st q
                cases ds with
                | nil => exact hne hz rfl
                | cons d0 ds =>
                  obtain ⟨i, d', q', hv⟩ := x
                  obtain ⟨e1, e2⟩ := argE_own1 q'
                  subst e1 e2
                  have e0 : IsO ρ' 0 b := by
                    have q : (match ρ'[(0 : Nat)]? with
                      | some (some (.own b)) => some b
                      | _ => none) = some b := q
                    split at q
                    · rename_i b' q2
                      cases q
                      exact q2
                    · cases q
                  refine n ⟨0, b, e0, ?_⟩
                  unfold IsV
                  rw [st.zero rfl]
                  exact at_app hv
            · exact x
          · rename_i hf
            rw [if_neg hf]
            exact rt
theorem fn_bad {prog : Program} {w : World} {K : PySem.W.Frag} {mg : Str → Option Value} {base : Heap} {P : Pm} {f : Addr} {fd : FuncData} {ps : List Str} {io : Bool} {k : Nat} : FnOk prog w K mg base (L2.CX prog w) k f fd ps (spF P io badF) :=
  ⟨fun vs H Q E ⟨ds, G, s, h⟩ => h.elim, fun A outer s H args us vs Q E _ _ _ _ ⟨ds, G, _, h⟩ => h.elim⟩
/-! ### what is never reached -/
section
variable {X : Cx} {P : Pm} {E : XK} {GD : Nat → D} {F : Nat → Fn} {z : Bool}
theorem ke_un {e : Expr} : PE X e (tE P E (den GD F .un)) := ⟨fun pins s σ H Q I ⟨ρ, G, sm, h⟩ => by unfold den at h; exact h.elim⟩
theorem kb_un {e : Expr} : PT X e (tB P E (denB GD F .un)) := ⟨fun pins s σ H Q I ⟨ρ, G, sm, h⟩ => by unfold denB at h; exact h.elim⟩
theorem ki_un {tg e : Expr} {hd : List Nat} : PI X tg e (tI P E hd (denI GD F hd .un)) := ⟨fun pins s σ H Q I ⟨ρ, G, sm, h⟩ => by unfold denI at h; exact h.elim⟩
theorem ks_un {st : Stmt} : PS X st (tS P E z (denS GD F z .un)) := ⟨fun pins s σ H Q I ⟨ρ, G, sm, h⟩ => by unfold denS at h; exact h.elim⟩
end
/-! ### exceptions leave -/
theorem hx_body {X : Cx} {E : XK} {E₁ : Value → Shared → Prop} (hs : X.stack = X.env :: X.outer) (hf : X.env.frame = some X.env.locals) (hex : X.ex = [])
    (hx : X.xe = fun e s' => wpAny (model X.prog X.w) X.A (leaving X.env e) (fun _ s'' => CX X.prog X.w X.outer X.H_0 X.s_0 E e s'') E₁ s') : Passes (L2.CX X.prog X.w) X E := passes_call (takes_of hs hf hex hx) fun _ _ _ _ h => h
/-- the law's own call -/
theorem law_sp {P : Pm} {f : Fn} {ns : List Int} {H : Hp} {a : Addr} {b : Bool} {x : D} (hT : LamX.Tabs P.T H) (hs : SqL P.K H a (ns.map V.int)) (hf : f [.scr ns] = .ok ((b, .bl true), x)) : spF P false f [.ref a] H (fun v _ => v = .bl true) fun _ _ _ => False := by
  have key : ∃ G : Hp, SubH G H ∧ (∀ c o, G c = some o → nt o) ∧ SqL P.K G a (ns.map V.int) := by
    rcases hs with (h | ⟨o, h⟩) | ⟨o, its, n, h⟩
    · refine ⟨fun c => if c = a then H a else none, fun c o q => ?_, fun c o q => ?_, .inl (.inl (by simp [h]))⟩
      · by_cases e : c = a
        · subst e
          simp at q
          exact .inl q
        · simp [e] at q
      · by_cases e : c = a
        · subst e
          simp at q
          rw [h] at q
          cases q
          exact fun ps z => by cases z
        · simp [e] at q
    · refine ⟨fun c => if c = a then H a else none, fun c o' q => ?_, fun c o' q => ?_, .inl (.inr ⟨o, by simp [h]⟩)⟩
      · by_cases e : c = a
        · subst e
          simp at q
          exact .inl q
        · simp [e] at q
      · by_cases e : c = a
        · subst e
          simp at q
          rw [h] at q
          cases q
          exact fun ps z => by cases z
        · simp [e] at q
    · exact ⟨fun _ => none, (fun c o q => by cases q), (fun c o q => by cases q), .inr ⟨o, its, n, h⟩⟩
  obtain ⟨G, sub, gnt, hG⟩ := key
  refine ⟨[.scr ns], G, args_sim (ds := [.scr ns]) (vs := [.ref a]) ⟨sub, gnt, hT⟩ (RepL.cons ?_ RepL.nil), ?_⟩
  · simp only [Rep]
    exact ⟨a, rfl, hG⟩
  · rw [hf]
    intro v H' G' st g
    unfold Got at g
    cases b with
    | true =>
      rw [if_pos rfl] at g
      obtain ⟨_, _, _, _, _, w, _⟩ := g
      exact w.elim
    | false =>
      rw [if_neg Bool.false_ne_true] at g
      simpa only [Rep] using g
end Kn

end

section
/-! K, a text's methods; enumerate, zip. -/
namespace Kn
open PySem PySem.Spec PyProof.Rows L2
def MtS (X : Cx) (T : List (Addr × Str)) (id : String) (m : MT) : Prop :=
  MtR X id (fun x xs H Q => ∃ G t d u r, x = .str (txS t) ∧ okT t ∧ xs = [u] ∧ Gd X.K T H G ∧ Red X.K H G d u ∧ mtop m t d = some r ∧ Then X.K T H G r Q)
section
variable {K : PySem.W.Frag} {T : List (Addr × Str)} {H G : Hp}
theorem strs_of : ∀ {ds : List D} {ns : List (List Nat)} {vs : List V}, allStr ds = some ns → RepL K G ds vs → vs = (ns.map txS).map V.str ∧ ∀ n ∈ ns, okT n
  | [], ns, vs, e, r => by cases e; simp only [RepL] at r; exact ⟨r, fun n h => by cases h⟩
  | d :: ds, ns, vs, e, r => by
    obtain ⟨v, rr, e1, h1, h2⟩ := r.uncons
    cases d with
    | str i =>
      have e : (allStr ds).map (i :: ·) = some ns := e
      obtain ⟨ms, e2, e3⟩ := Option.map_eq_some_iff.mp e
      subst e1 e3
      simp only [Rep] at h1
      obtain ⟨q1, q2⟩ := strs_of e2 h2
      refine ⟨by rw [h1.1, q1]; rfl, fun n hn => ?_⟩
      rcases List.mem_cons.mp hn with rfl | hn
      · exact h1.2
      · exact q2 n hn
    | _ => cases e
theorem joinT_L (S : List Nat) : ∀ ts : List (List Nat), joinT S ts = TL.joinL S ts
  | [] => rfl
  | [_] => rfl
  | x :: y :: r => by rw [joinT, TL.joinL, joinT_L S (y :: r)]
theorem tl_txS (x : List Nat) : TL.tl (txS x) = x := by simp [TL.tl, txS]
theorem join_txS (t : List Nat) (ts : List (List Nat)) : PySem.Txt.join (txS t) (ts.map txS) = txS (joinT t ts) := by
  apply TL.ext_tl
  rw [TL.join_eq, TL.tl_join, tl_txS, tl_txS, joinT_L, List.map_map]
  congr 1
  have : (TL.tl ∘ txS) = id := by funext x; exact tl_txS x
  rw [this, List.map_id]
theorem okT_joinT (t : List Nat) (ht : okT t) : ∀ ts : List (List Nat), (∀ n ∈ ts, okT n) → okT (joinT t ts)
  | [], _ => okT_iff.mpr (by intro c hc; cases hc)
  | [x], h => h x (List.mem_singleton.mpr rfl)
  | x :: y :: r, h => by
    have h1 := h x (List.mem_cons_self ..)
    have h2 := okT_joinT t ht (y :: r) fun n hn => h n (List.mem_cons_of_mem _ hn)
    rw [okT_iff] at *
    intro c hc
    rw [joinT, List.mem_append, List.mem_append] at hc
    rcases hc with hc | hc | hc
    · exact h1 c hc
    · exact ht c hc
    · exact h2 c hc
theorem len_sum (ts : List (List Nat)) : ((ts.map txS).map (·.length)).sum = (ts.map List.length).sum := by
  rw [List.map_map]; exact congrArg List.sum (List.map_congr_left fun x _ => len_txS x)
end
section
variable {X : Cx} {P : Pm} {E : XK} {GD : Nat → D} {F : Nat → Fn} {T : List (Addr × Str)} {a b : Expr} {ca cb : CE} {pos apos : Pos}
theorem ms_join : MtS X T "str.join" .join := by
  intro pins s σ H x xs v us Q I rx rs ⟨G, t, d, u, r, e1, ok, e2, gd, rd, e, h⟩
  subst e1 e2
  cases d with
  | lst ds =>
    have e : (match allStr ds with
      | some ts => if (ts.map List.length).sum + ts.length * t.length ≤ 16777216 then some (D.str (joinT t ts), false) else none
      | none => none) = some r := e
    cases q : allStr ds with
    | none => rw [q] at e; cases e
    | some ts =>
      rw [q] at e
      dsimp only at e
      split at e
      · rename_i hl
        cases e
        obtain ⟨p, ws, e4, ha, r2⟩ := red_lst gd.sub rd
        obtain ⟨e5, oks⟩ := strs_of q r2
        subst e4 e5
        refine mt_join pins s σ H _ _ v us Q I rx rs ⟨txS t, p, ts.map txS, rfl, rfl, .inl (.of ha), by rw [len_sum, List.length_map, len_txS]; exact hl, ?_⟩
        rw [join_txS]
        exact h.imm gd (rep_str (okT_joinT t ok ts oks))
      · cases e
  | tup ds =>
    have e : (match allStr ds with
      | some ts => if (ts.map List.length).sum + ts.length * t.length ≤ 16777216 then some (D.str (joinT t ts), false) else none
      | none => none) = some r := e
    cases q : allStr ds with
    | none => rw [q] at e; cases e
    | some ts =>
      rw [q] at e
      dsimp only at e
      split at e
      · rename_i hl
        cases e
        obtain ⟨p, ws, e4, ha, r2⟩ := red_tup gd.sub rd
        obtain ⟨e5, oks⟩ := strs_of q r2
        subst e4 e5
        refine mt_join pins s σ H _ _ v us Q I rx rs ⟨txS t, p, ts.map txS, rfl, rfl, .inr ha, by rw [len_sum, List.length_map, len_txS]; exact hl, ?_⟩
        rw [join_txS]
        exact h.imm gd (rep_str (okT_joinT t ok ts oks))
      · cases e
  | _ => cases e
theorem splitC_spl (c : Nat) : ∀ (x acc : List Nat), splitC c acc x = TL.spl [c] 0 acc x
  | [], acc => by rw [splitC, TL.spl_nil]
  | d :: r, acc => by
    rw [splitC]
    show _ = if TL.pre [c] (d :: r) = true then acc :: TL.spl [c] ([c].length - 1) [] r else TL.spl [c] 0 (acc ++ [d]) r
    have hp : (TL.pre [c] (d :: r) = true) ↔ d = c := by simp [TL.pre]
    by_cases hd : d = c
    · rw [if_pos hd, if_pos (hp.mpr hd), splitC_spl c r []]; rfl
    · rw [if_neg hd, if_neg fun z => hd (hp.mp z), splitC_spl c r (acc ++ [d])]
theorem splitC_sub (c : Nat) : ∀ (x acc : List Nat), ∀ w ∈ splitC c acc x, ∀ z ∈ w, z ∈ acc ∨ z ∈ x
  | [], acc, w, hw, z, hz => by
    rw [splitC, List.mem_singleton] at hw; subst hw; exact .inl hz
  | d :: r, acc, w, hw, z, hz => by
    rw [splitC] at hw
    split at hw
    · rcases List.mem_cons.mp hw with rfl | hw
      · exact .inl hz
      · rcases splitC_sub c r [] w hw z hz with q | q
        · cases q
        · exact .inr (List.mem_cons_of_mem _ q)
    · rcases splitC_sub c r (acc ++ [d]) w hw z hz with q | q
      · rcases List.mem_append.mp q with q | q
        · exact .inl q
        · rw [List.mem_singleton] at q; subst q; exact .inr (List.mem_cons_self ..)
      · exact .inr (List.mem_cons_of_mem _ q)
theorem split_txS (x : List Nat) (c : Nat) (hc : c < 128) : PySem.Txt.split (txS x) (txS [c]) = (splitC c [] x).map txS := by
  have h := TL.split_spl (txS x) (txS [c]) (by rw [tl_txS]; simp) (TL.kind_ok (by simp [txS]; omega))
  rw [tl_txS, tl_txS, ← splitC_spl] at h
  apply TL.map_tl_inj
  rw [h, List.map_map]
  have : (TL.tl ∘ txS) = id := by funext x; exact tl_txS x
  rw [this, List.map_id]
theorem repL_strs : ∀ (ts : List (List Nat)), (∀ n ∈ ts, okT n) → RepL X.K (fun _ => none) (ts.map .str) ((ts.map txS).map V.str)
  | [], _ => RepL.nil
  | t :: ts, h => RepL.cons (rep_str (h t (List.mem_cons_self ..))) (repL_strs ts fun n hn => h n (List.mem_cons_of_mem _ hn))
theorem ms_split : MtS X T "str.split" .split := by
  intro pins s σ H x xs v us Q I rx rs ⟨G, t, d, u, r, e1, ok, e2, gd, rd, e, h⟩
  subst e1 e2
  obtain ⟨c, hd⟩ : ∃ c, d = .str [c] := by
    unfold mtop at e
    split at e <;> first | (rename_i q; cases q; done) | (cases e; done) | exact ⟨_, rfl⟩
  subst hd
  have e : (if t.length ≤ 1000000 ∧ c < 128 then some (D.lst ((splitC c [] t).map .str), true) else none) = some r := e
  split at e
  · rename_i hl
    cases e
    obtain ⟨e3, ok3⟩ := red_str rd
    subst e3
    refine mt_split pins s σ H _ _ v us Q I rx rs ⟨txS t, txS [c], rfl, rfl, by rw [len_txS]; rfl, by rw [len_txS]; have := hl.1; unfold sizeLine; omega, ?_⟩
    rw [split_txS t c hl.2]
    intro p np
    refine h.lst gd np ?_
    have oks : ∀ n ∈ splitC c [] t, okT n := fun n hn => okT_sub ok fun z hz => (splitC_sub c t [] n hn z hz).elim (fun q => by cases q) id
    generalize splitC c [] t = ts at oks
    induction ts with
    | nil => exact RepL.nil
    | cons w ts ih => exact RepL.cons (rep_str (oks w (List.mem_cons_self ..))) (ih fun n hn => oks n (List.mem_cons_of_mem _ hn))
  · cases e
theorem ke_mt {m : MT} {id : String} {name : Str} (hK : P.K = X.K) (hf : MtS X P.T id m) (slot : Slot "str" name id) (ty : typeOf (.builtin id) = pure (.type "method_descriptor"))
    (ha : PE X a (tE P E (den GD F ca))) (hb : PE X b (tE P E (den GD F cb)))
    (hs : starEach [b] X.env = [(false, eval b X.env)] := by rfl) (hbase : attributeBase a name X.env (eval a X.env) = eval a X.env := by rfl) (hline : (apos.endLine == pos.line) = true := by rfl) :
    PE X (.Call (.Attribute a name apos) [b] [] pos) (tE P E (den GD F (.mt m ca cb))) := by
  refine PE.mono (pe_m1 slot ty hf ha hb hs hbase hline) fun σ H Q ⟨ρ, G, s, h⟩ => ?_
  unfold den at h
  refine ⟨ρ, G, s, h.bind fun y ρ1 H1 G1 st1 h1 v rv => ?_⟩
  dsimp only at h1
  split at h1
  · rename_i _ t
    obtain ⟨e1, ok⟩ := red_str (readv s st1 rv rfl)
    subst e1
    refine ⟨⟨_, rfl⟩, ρ1, G1, st1.sim, h1.bind fun x ρ2 H2 G2 st2 h2 u ru => ?_⟩
    obtain ⟨d, e1, h2⟩ := h2.of
    obtain ⟨r, e2, h2⟩ := h2.of
    rw [← hK]
    exact ⟨G2, t, d, u, r, rfl, ok, rfl, st2.sim.gd, readv st1.sim st2 ru e1, e2, then_of st2.sim (fun b z => st2.st.mono b (st1.st.mono b z)) h2⟩
  · exact h1.elim
theorem ke_join (hK : P.K = X.K) (ha : PE X a (tE P E (den GD F ca))) (hb : PE X b (tE P E (den GD F cb)))
    (hs : starEach [b] X.env = [(false, eval b X.env)] := by rfl) (hbase : attributeBase a "join" X.env (eval a X.env) = eval a X.env := by rfl) (hline : (apos.endLine == pos.line) = true := by rfl) :
    PE X (.Call (.Attribute a "join" apos) [b] [] pos) (tE P E (den GD F (.mt .join ca cb))) := ke_mt hK ms_join PySem.F.slot_str_join PySem.F.type_str_join ha hb hs hbase hline
theorem ke_split (hK : P.K = X.K) (ha : PE X a (tE P E (den GD F ca))) (hb : PE X b (tE P E (den GD F cb)))
    (hs : starEach [b] X.env = [(false, eval b X.env)] := by rfl) (hbase : attributeBase a "split" X.env (eval a X.env) = eval a X.env := by rfl) (hline : (apos.endLine == pos.line) = true := by rfl) :
    PE X (.Call (.Attribute a "split" apos) [b] [] pos) (tE P E (den GD F (.mt .split ca cb))) := ke_mt hK ms_split PySem.F.slot_str_split PySem.F.type_str_split ha hb hs hbase hline
end
end Kn

end

section
/-! K, enumerate, zip. -/
namespace Kn
open PySem PySem.Spec PyProof.Rows L2
theorem zipD_get : ∀ (xs ys : List D) (i : Nat) (d : D), (zipD xs ys)[i]? = some d → ∃ x y, xs[i]? = some x ∧ ys[i]? = some y ∧ d = .tup [x, y]
  | [], ys, i, d, h => by simp [zipD] at h
  | x :: xs, [], i, d, h => by simp [zipD] at h
  | x :: xs, y :: ys, 0, d, h => by simp [zipD] at h; exact ⟨x, y, rfl, rfl, h.symm⟩
  | x :: xs, y :: ys, i + 1, d, h => by
    rw [zipD, List.getElem?_cons_succ] at h
    obtain ⟨a, b, h1, h2, h3⟩ := zipD_get xs ys i d h
    exact ⟨a, b, by rw [List.getElem?_cons_succ]; exact h1, by rw [List.getElem?_cons_succ]; exact h2, h3⟩
theorem zipD_len : ∀ (xs ys : List D), (zipD xs ys).length = min xs.length ys.length
  | [], ys => by simp [zipD]
  | x :: xs, [] => by simp [zipD]
  | x :: xs, y :: ys => by rw [zipD, List.length_cons, zipD_len xs ys, List.length_cons, List.length_cons]; omega
section
variable {P : Pm} {E : XK} {ρ ρ' ρ1 : Env} {σ : L2.St} {H H' H1 G G' G1 : Hp}
theorem new_pair {T : Addr} {x y : V} {dx dy : D} (g : Gd P.K P.T H G) (n : H T = none) (rx : Rep P.K G dx x) (ry : Rep P.K G dy y) :
    ∃ G', Cst P.K P.T H G (upd H T (.tup [x, y])) G' ∧ Rep P.K G' (.tup [dx, dy]) (.ref T) := by
  have c : Cst P.K P.T H G (upd H T (.tup [x, y])) (upd G T (.tup [x, y])) := .newG g n fun ps e => by cases e
  exact ⟨_, c, rep_tup (.inl (.inl upd_same)) (.cons (Rep.sub c.sub _ rx) (.cons (Rep.sub c.sub _ ry) .nil))⟩
theorem gives_enum {kp : Addr → Prop} {xs : List D} {vs : List V} {a : Addr} (r : RepL P.K G xs vs) (k : ∀ H' G', Sub G G' → SubH G' H' → (∀ b o, kp b → H b = some o → H' b = some o) → H' a = some (.lst vs)) : Gives P (Ite P.K a) (zipD (rng 0 xs.length 1) xs) kp H G where
  go := fun i H' G' hi s1 s2 k' => ⟨vs, vs[i]'(by rw [r.length]; rw [zipD_len] at hi; omega), .of (k H' G' s1 s2 k'), List.getElem?_eq_getElem _⟩
  stop := fun H' G' s1 s2 k' => ⟨vs, .of (k H' G' s1 s2 k'), by
    have hl : (rng 0 (xs.length : Int) 1).length = xs.length := by rw [rng_one, List.length_map, List.length_range]; omega
    rw [r.length, zipD_len, hl, Nat.min_self]; exact Nat.le_refl _⟩
  yld := fun i d H' G' x H'' e s1 g k' y => by
    obtain ⟨T, z, e1, n, e2, y2⟩ := y
    subst e1 e2
    obtain ⟨dx, dy, q1, q2, q3⟩ := zipD_get _ _ _ _ e
    subst q3
    obtain ⟨v, e3, r2⟩ := r.get q2
    have e4 := y2 vs (.of (k H' G' s1 g.sub k'))
    rw [e3] at e4
    cases e4
    have q4 : dx = .int (i : Nat) := by
      rw [rng_one, List.getElem?_map] at q1
      obtain ⟨m, e5, e6⟩ := Option.map_eq_some_iff.mp q1
      obtain ⟨hm, e7⟩ := List.getElem?_eq_some_iff.mp e5
      rw [List.getElem_range] at e7
      subst e7 e6
      congr 1; omega
    subst q4
    exact new_pair g n rep_int (Rep.sub s1 _ r2)
theorem gives_zipL {kp : Addr → Prop} {xs ys : List D} {vs us : List V} {a b : Addr} (r : RepL P.K G xs vs) (r' : RepL P.K G ys us) (h1 : G a = some (.lst vs)) (h2 : G b = some (.lst us)) : Gives P (Itz P.K a b) (zipD xs ys) kp H G where
  go := fun i H' G' hi s1 s2 k' => ⟨vs, us, vs[i]'(by rw [r.length]; rw [zipD_len] at hi; omega), us[i]'(by rw [r'.length]; rw [zipD_len] at hi; omega), .of (s2.lst (s1 _ _ h1)), .of (s2.lst (s1 _ _ h2)), List.getElem?_eq_getElem _, List.getElem?_eq_getElem _⟩
  stop := fun H' G' s1 s2 k' => ⟨vs, us, .of (s2.lst (s1 _ _ h1)), .of (s2.lst (s1 _ _ h2)), by rw [r.length, r'.length, zipD_len]; omega⟩
  yld := fun i d H' G' x H'' e s1 g k' y => by
    obtain ⟨T, z, w, e1, n, e2, y2, y3⟩ := y
    subst e1 e2
    obtain ⟨dx, dy, q1, q2, q3⟩ := zipD_get _ _ _ _ e
    subst q3
    obtain ⟨v, e3, r2⟩ := r.get q1
    obtain ⟨u, e4, r3⟩ := r'.get q2
    have e5 := y2 vs (.of (g.sub.lst (s1 _ _ h1)))
    have e6 := y3 us (.of (g.sub.lst (s1 _ _ h2)))
    rw [e3] at e5
    rw [e4] at e6
    cases e5
    cases e6
    exact new_pair g n (Rep.sub s1 _ r2) (Rep.sub s1 _ r3)
theorem gives_zipT {kp : Addr → Prop} {xs ys : List D} {vs us : List V} {a b : Addr} (r : RepL P.K G xs vs) (r' : RepL P.K G ys us) (h1 : SqT P.K G a vs) (h2 : SqT P.K G b us) : Gives P (RZ.ItzT P.K a b) (zipD xs ys) kp H G where
  go := fun i H' G' hi s1 s2 k' => ⟨vs, us, vs[i]'(by rw [r.length]; rw [zipD_len] at hi; omega), us[i]'(by rw [r'.length]; rw [zipD_len] at hi; omega), s2.sqT (SqT_sub s1 h1), s2.sqT (SqT_sub s1 h2), List.getElem?_eq_getElem _, List.getElem?_eq_getElem _⟩
  stop := fun H' G' s1 s2 k' => ⟨vs, us, s2.sqT (SqT_sub s1 h1), s2.sqT (SqT_sub s1 h2), by rw [r.length, r'.length, zipD_len]; omega⟩
  yld := fun i d H' G' x H'' e s1 g k' y => by
    obtain ⟨T, z, w, e1, n, e2, y2, y3⟩ := y
    subst e1 e2
    obtain ⟨dx, dy, q1, q2, q3⟩ := zipD_get _ _ _ _ e
    subst q3
    obtain ⟨v, e3, r2⟩ := r.get q1
    obtain ⟨u, e4, r3⟩ := r'.get q2
    have e5 := y2 vs (g.sub.sqT (SqT_sub s1 h1))
    have e6 := y3 us (g.sub.sqT (SqT_sub s1 h2))
    rw [e3] at e5
    rw [e4] at e6
    cases e5
    cases e6
    exact new_pair g n (Rep.sub s1 _ r2) (Rep.sub s1 _ r3)
end
section
variable {X : Cx} {P : Pm} {E : XK} {GD : Nat → D} {F : Nat → Fn} {pos p tpos : Pos} {a b e : Expr} {ca cb ce : CE} {elts : List Expr} {kk : Nat} {hd : List Nat}
theorem ki_enum (hK : P.K = X.K) (hg : Gl X "enumerate") (hm : X.mg "enumerate" = none) (he : PE X e (tE P E (den GD F ce))) (hs : starEach [e] X.env = [(false, eval e X.env)] := by rfl) :
    PI X (.Tuple elts kk tpos) (.Call (.Name "enumerate" p) [e] [] pos) (tI P E hd (denI GD F hd (.enum ce))) := by
  refine PI.mono (pi_enum hg hm (pa_cons he pa_nil hs) hs) fun σ H R ⟨ρ, G, sm, h⟩ => ?_
  unfold denI at h
  refine ⟨ρ, G, sm, h.bindS fun x ρ1 H1 G1 _ st1 h1 v rv => ?_⟩
  obtain ⟨z, e1, h1⟩ := h1.of
  obtain ⟨G2, st2, hh⟩ := fzH_ok sm st1 rv e1
  split at h1
  · rename_i xs e2
    rw [e2] at hh
    obtain ⟨a, vs, e3, r, k⟩ := held_lst st2.sim.gd.sub hh
    subst e3
    rw [← hK]
    exact ⟨a, vs, rfl, .of (k H1 G2 (Sub.refl _) st2.sim.gd.sub fun _ _ _ z => z), (h1.move st2).ok st2.sim _ (gives_enum r k)⟩
  · exact h1.elim
theorem ki_zip (hK : P.K = X.K) (hg : Gl X "zip") (hm : X.mg "zip" = none) (ha : PE X a (tE P E (den GD F ca))) (hb : PE X b (tE P E (den GD F cb))) (hs2 : starEach [b] X.env = [(false, eval b X.env)] := by rfl)
    (hs : starEach [a, b] X.env = (false, eval a X.env) :: starEach [b] X.env := by rfl) (hpl : (backTo pos (starEach [b] X.env)).any (·.1) = false := by rfl) :
    PI X (.Tuple elts kk tpos) (.Call (.Name "zip" p) [a, b] [] pos) (tI P E hd (denI GD F hd (.zip ca cb))) := by
  refine PI.mono (RZ.pi_zipA hg hm (pa_cons ha (pa_cons hb pa_nil hs2) hs) hs hpl) fun σ H R ⟨ρ, G, sm, h⟩ => ?_
  unfold denI at h
  refine ⟨ρ, G, sm, h.bindS fun x ρ1 H1 G1 _ st1 h1 v rv => ?_⟩
  obtain ⟨z, e1, h1⟩ := h1.of
  obtain ⟨G2, st2, r2, _⟩ := fz_ok sm st1 rv e1
  refine ⟨z.2, G2, st2.sim, (h1.move st2).bindS fun y ρ3 H3 G3 _ st3 h3 u ru => ?_⟩
  obtain ⟨z', e2, h3⟩ := h3.of
  obtain ⟨G4, st4, r4, _⟩ := fz_ok st2.sim st3 ru e2
  have r2' := Rep.sub st4.st.sub _ r2
  split at h3
  · rename_i xs ys q1 q2
    rw [q1] at r2'
    rw [q2] at r4
    simp only [Rep] at r2' r4
    obtain ⟨a1, vs, e3, g1, rr⟩ := r2'
    obtain ⟨b1, us, e4, g2, rr'⟩ := r4
    subst e3 e4
    rw [← hK]
    exact ⟨a1, b1, vs, us, rfl, .inl ⟨.of (st4.sim.gd.sub.lst g1), .of (st4.sim.gd.sub.lst g2), (h3.move st4).ok st4.sim _ (gives_zipL rr rr' g1 g2)⟩⟩
  · rename_i xs ys q1 q2
    rw [q1] at r2'
    rw [q2] at r4
    simp only [Rep] at r2' r4
    obtain ⟨a1, vs, e3, g1, rr⟩ := r2'
    obtain ⟨b1, us, e4, g2, rr'⟩ := r4
    subst e3 e4
    rw [← hK]
    exact ⟨a1, b1, vs, us, rfl, .inr ⟨st4.sim.gd.sub.sqT g1, st4.sim.gd.sub.sqT g2, (h3.move st4).ok st4.sim _ (gives_zipT rr rr' g1 g2)⟩⟩
  · exact h3.elim
end
end Kn

end

section
/-! K, quiet expressions: what stands within a generator expression. -/
namespace Kn
open PySem PySem.Spec PyProof.Rows L2
/-- data, as a value of a heap (a dict tells nothing) -/
inductive HVal (h : Heap) : D → Value → Prop
  | non : HVal h .non .none
  | bl (b : Bool) : HVal h (.bl b) (.bool b)
  | int (i : Int) (t : Tok) : HVal h (.int i) (.int i t)
  | str (x : List Nat) (t : Tok) : HVal h (.str x) (.str (txS x) t)
  | tup {xs : List D} {a : Addr} {o : Obj} (e : h.get? a = some o) (c : o.cls = .type "tuple") : HVal h (.tup xs) (.ref a)
  | lst {xs : List D} {a : Addr} {o : Obj} (e : h.get? a = some o) (c : o.cls = .type "list") : HVal h (.lst xs) (.ref a)
  | scr {ns : List Int} {a : Addr} {o : Obj} (e : h.get? a = some o) (c : o.cls = .type "list") : HVal h (.scr ns) (.ref a)
  | dic {ks vs : List D} {v : Value} : HVal h (.dic ks vs) v
theorem HVal.keeps {h h' : Heap} {d : D} {v : Value} (k : ∀ b o, h.get? b = some o → h'.get? b = some o) : HVal h d v → HVal h' d v
  | .non => .non
  | .bl b => .bl b
  | .int i t => .int i t
  | .str x t => .str x t
  | .tup e c => .tup (k _ _ e) c
  | .lst e c => .lst (k _ _ e) c
  | .scr e c => .scr (k _ _ e) c
  | .dic => .dic
theorem keeps_refl (s : Shared) : Keeps s s := ⟨s.heap, s.toks, rfl, fun _ _ e => e⟩
theorem keeps_tok (s : Shared) (k : Nat) : Keeps s { s with toks := k } := ⟨s.heap, k, rfl, fun _ _ e => e⟩
theorem keeps_trans {s s1 s2 : Shared} (a : Keeps s s1) (b : Keeps s1 s2) : Keeps s s2 := by
  obtain ⟨h1, t1, rfl, k1⟩ := a
  obtain ⟨h2, t2, rfl, k2⟩ := b
  exact ⟨h2, t2, rfl, fun b o e => k2 b o (k1 b o e)⟩
theorem keeps_get {s s1 : Shared} (a : Keeps s s1) : ∀ b o, s.heap.get? b = some o → s1.heap.get? b = some o := by
  obtain ⟨h1, t1, rfl, k1⟩ := a
  exact k1
theorem hv_of {X : Cx} {pins : List (Addr × Obj)} {σ : L2.St} {H G : Hp} {s : Shared} {d : D} {x : V} {u : Value} (I : Inv X pins σ H s) (sg : SubH G H) (r : Rep X.K G d x) (rv : RelV x u) : HVal s.heap d u := by
  cases d with
  | non => simp only [Rep] at r; subst r; cases (show u = Value.none from rv); exact .non
  | bl b => simp only [Rep] at r; subst r; cases (show u = Value.bool b from rv); exact .bl b
  | int i => simp only [Rep] at r; subst r; obtain ⟨t, q⟩ := (show ∃ t, u = Value.int i t from rv); subst q; exact .int i t
  | str y => simp only [Rep] at r; obtain ⟨r, _⟩ := r; subst r; obtain ⟨t, q⟩ := (show ∃ t, u = Value.str (txS y) t from rv); subst q; exact .str y t
  | lst xs =>
    simp only [Rep] at r
    obtain ⟨a, vs, e, g, r⟩ := r
    subst e
    cases (show u = Value.ref a from rv)
    obtain ⟨its, _, ⟨o, n, ho, hc, _⟩, _⟩ := I.list (.of (sg.lst g))
    exact .lst ho hc
  | tup xs =>
    simp only [Rep] at r
    obtain ⟨a, vs, e, g, r⟩ := r
    subst e
    cases (show u = Value.ref a from rv)
    obtain ⟨its, _, ⟨o, ho, hc, _⟩, _⟩ := I.tuple (sg.sqT g)
    exact .tup ho hc
  | scr ns =>
    simp only [Rep] at r
    obtain ⟨a, e, g⟩ := r
    subst e
    cases (show u = Value.ref a from rv)
    obtain ⟨its, _, ⟨o, n, ho, hc, _⟩, _⟩ := I.list (sg.sqL g)
    exact .scr ho hc
  | dic ks vs => exact .dic
/-- what a quiet expression sees: its one name x at slot i with d, captured ones, what the program has -/
structure QS (X : Cx) (scope : Scope) (x : Str) (W : Kn.Env) (d : D) (cenv : PySem.Env) (s : Shared) : Prop where
  sc : cenv.scope = scope
  kind : scope.kind = .function
  glob : cenv.globals = mainGlobals
  blt : cenv.builtins = builtinsNs
  loc : scope.names.lookup x = some .local
  ns : ∃ m v, s.heap.Ns cenv.locals m ∧ m x = some v ∧ HVal s.heap d v
  nd : isDic d = false
  cap : ∀ (j : Nat) (y : Str) (e : D), W[j]? = some (some (.imm e)) → X.N[j]? = some y → scope.names.lookup y = some .free → ∃ c u, cenv.cells.lookup y = some c ∧ s.heap.IsCell c (some u) ∧ HVal s.heap e u
  kin : X.K.In s.heap
  mg : s.heap.Ns mainGlobals X.mg
  mb : ∃ mb, s.heap.Ns builtinsNs mb ∧ ∀ x : Str, x ≠ "__name__" → mb x = bootBuiltins x
theorem QS.keeps {X : Cx} {scope : Scope} {x : Str} {W : Kn.Env} {d : D} {cenv : PySem.Env} {s s' : Shared} (q : QS X scope x W d cenv s) (k : Keeps s s') : QS X scope x W d cenv s' := by
  have g := keeps_get k
  obtain ⟨m, v, h1, h2, h3⟩ := q.ns
  obtain ⟨mb, h4, h5⟩ := q.mb
  exact ⟨q.sc, q.kind, q.glob, q.blt, q.loc, ⟨m, v, h1.keeps g, h2, h3.keeps g⟩, q.nd, fun j y e a b c => let ⟨cc, u, e1, ⟨o, e2, e3⟩, e4⟩ := q.cap j y e a b c; ⟨cc, u, e1, ⟨o, g _ _ e2, e3⟩, e4.keeps g⟩, q.kin.keeps g, q.mg.keeps g, mb, h4.keeps g, h5⟩
/-- a quiet expression's reading -/
def QE (X : Cx) (scope : Scope) (x : Str) (i : Nat) (W : Kn.Env) (elt : Expr) (f : Kn.Env → R (RV × Kn.Env)) : Prop :=
  ∀ (cenv : PySem.Env) (A : Around) (E : Value → Shared → Prop) (s : Shared) (d : D) (p : RV × Env), QS X scope x W d cenv s → A.handled = none → f (W.set i (some (.imm d))) = .ok p →
    ∃ r, p = (.imm r, W.set i (some (.imm d))) ∧ wpAny (model X.prog X.w) A (eval elt cenv) (fun y s' => HVal s'.heap r y ∧ Keeps s s') E s
section
variable {X : Cx} {scope : Scope} {x : Str} {i : Nat} {W : Kn.Env} {GD : Nat → D} {F : Nat → Fn} {a b c : Expr} {ca cb cc : CE} {pos pos2 p1 p2 : Pos}
theorem bind_ok {α β : Type} {x : R α} {f : α → R β} {p : β} (h : x.bind f = .ok p) : ∃ a, x = .ok a ∧ f a = .ok p := by
  cases x with
  | ok a => exact ⟨a, rfl, h⟩
  | exc c q => cases h
  | bad => cases h
theorem of_ok {α β : Type} {x : Option α} {f : α → R β} {p : β} (h : (R.of x).bind f = .ok p) : ∃ a, x = some a ∧ f a = .ok p := by
  cases x with
  | some a => exact ⟨a, rfl, h⟩
  | none => cases h
/-- the loop's own name -/
theorem q_x (hi : i < W.length) (hd : (x == ("__debug__" : Str)) = false := by decide) : QE X scope x i W (.Name x pos) (den GD F (.v i)) := by
  intro cenv A E s d p q hA h
  unfold den at h
  rw [List.getElem?_set_self hi] at h
  cases h
  refine ⟨d, rfl, ?_⟩
  obtain ⟨m, v, h1, h2, h3⟩ := q.ns
  exact wpAny_Name (wpAny_loadName_local (by rw [q.sc]; exact q.kind) (show cenv.scope.names.lookup x = some .local by rw [q.sc]; exact q.loc) h1 h2 ⟨h3, keeps_refl s⟩) hd
/-- a captured name -/
theorem q_cap {j : Nat} {y : Str} (hj : i ≠ j) (hN : X.N[j]? = some y) (hf : scope.names.lookup y = some .free) (ho : ∀ e, W[j]? ≠ some (some (.own e))) (hd : (y == ("__debug__" : Str)) = false := by decide) (hcd : (y == ("__classdict__" : Str)) = false := by decide) : QE X scope x i W (.Name y pos) (den GD F (.v j)) := by
  intro cenv A E s d p q hA h
  unfold den at h
  rw [List.getElem?_set_ne hj] at h
  split at h
  · rename_i e w
    cases h
    refine ⟨e, rfl, ?_⟩
    obtain ⟨c, u, h1, h2, h3⟩ := q.cap j y e w hN hf
    exact wpAny_Name (wpAny_loadName_free (by rw [q.sc]; exact q.kind) (show cenv.scope.names.lookup y = some .free by rw [q.sc]; exact hf) h1 h2 ⟨h3, keeps_refl s⟩ hcd) hd
  · rename_i e w
    exact absurd w (ho e)
  · cases h
theorem q_int {k : Int} {j : Nat} : QE X scope x i W (.Constant (.int k) j pos) (den GD F (.k (.int k))) := by
  intro cenv A E s d p q hA h
  unfold den at h
  cases h
  exact ⟨.int k, rfl, wpAny_Constant_int ⟨.int _ _, keeps_tok _ _⟩⟩
theorem q_str {t : Str} {y : List Nat} {j : Nat} (e : t = txS y) : QE X scope x i W (.Constant (.str t) j pos) (den GD F (.k (.str y))) := by
  intro cenv A E s d p q hA h
  unfold den at h
  cases h
  subst e
  exact ⟨.str y, rfl, Calls.Constant_str ⟨.str _ _, keeps_tok _ _⟩⟩
theorem q_one {op : BoolOp} {f : Kn.Env → R (RV × Kn.Env)} (ha : QE X scope x i W a f) : QE X scope x i W (.BoolOp op [a] pos) f := by
  intro cenv A E s d p q hA h
  obtain ⟨r, e, w⟩ := ha cenv A E s d p q hA h
  exact ⟨r, e, BoolOp_one w⟩
theorem q_and {rest : List Expr} (ha : QE X scope x i W a (den GD F ca)) (hb : QE X scope x i W (.BoolOp .And (b :: rest) pos) (den GD F cb)) : QE X scope x i W (.BoolOp .And (a :: b :: rest) pos) (den GD F (.and ca cb)) := by
  intro cenv A E s d p q hA h
  unfold den at h
  obtain ⟨y, h1, h2⟩ := bind_ok h
  obtain ⟨r, e, _⟩ := ha cenv A E s d y q hA h1
  subst e
  have h2 : (match (some r : Option D) with
    | some (.bl true) => den GD F cb (W.set i (some (.imm d)))
    | some (.bl false) => .ok (.imm (.bl false), W.set i (some (.imm d)))
    | _ => .bad) = R.ok p := h2
  split at h2
  · rename_i er
    cases er
    obtain ⟨r2, e2, _⟩ := hb cenv A E s d p q hA h2
    refine ⟨r2, e2, BoolOp_and ?_⟩
    obtain ⟨r1, e1, w1⟩ := ha cenv A E s d _ q hA h1
    cases e1
    refine wpAny_mono w1 (fun v s3 ⟨hv, k⟩ => ?_) fun _ _ e => e
    cases hv
    refine wpAny_truthy_bool ?_
    rw [if_pos rfl]
    obtain ⟨r3, e3, w3⟩ := hb cenv A E s3 d p (q.keeps k) hA h2
    rw [e2] at e3
    cases e3
    exact wpAny_mono w3 (fun y s4 ⟨a1, a2⟩ => ⟨a1, keeps_trans k a2⟩) fun _ _ e => e
  · rename_i er
    cases er
    cases h2
    refine ⟨.bl false, rfl, BoolOp_and ?_⟩
    obtain ⟨r1, e1, w1⟩ := ha cenv A E s d _ q hA h1
    cases e1
    refine wpAny_mono w1 (fun v s3 ⟨hv, k⟩ => ?_) fun _ _ e => e
    cases hv
    refine wpAny_truthy_bool ?_
    rw [if_neg Bool.false_ne_true]
    exact ⟨.bl false, k⟩
  · cases h2
theorem q_nt (ha : QE X scope x i W a (den GD F ca)) : QE X scope x i W (.UnaryOp .Not a pos) (den GD F (.nt ca)) := by
  intro cenv A E s d p q hA h
  unfold den at h
  obtain ⟨y, h1, h2⟩ := bind_ok h
  obtain ⟨r, e, w⟩ := ha cenv A E s d y q hA h1
  subst e
  have h2 : (match (some r : Option D) with
    | some (.bl b) => .ok (.imm (.bl (!b)), W.set i (some (.imm d)))
    | _ => .bad) = R.ok p := h2
  split at h2
  · rename_i b er
    cases er
    cases h2
    refine ⟨.bl (!b), rfl, wpAny_UnaryOp (wpAny_mono w (fun v s3 ⟨hv, k⟩ => ?_) fun _ _ e => e)⟩
    cases hv
    exact not_value (wpAny_truthy_bool ⟨.bl _, k⟩)
  · cases h2
/-- an order of ints -/
def ordc : COp → Bool
  | .lt => true
  | .le => true
  | .gt => true
  | .ge => true
  | _ => false
theorem ord_ints {o : COp} {x y : D} {r : Bool} (ho : ordc o = true) (h : cmpop o x y = some r) : ∃ j k, x = .int j ∧ y = .int k := by
  cases o <;> first | (cases ho; done) | skip
  all_goals
    cases x <;> first | (cases h; done) | skip
    cases y <;> first | (cases h; done) | skip
    exact ⟨_, _, rfl, rfl⟩
theorem cmp_ints {o : COp} {j k : Int} {r : Bool} (ho : ordc o = true) (h : cmpop o (.int j) (.int k) = some r) {A : Around} {E : Value → Shared → Prop} {s : Shared} {t u : Tok} {Q : Value → Shared → Prop} (hQ : Q (.bool r) s) :
    wpAny (model X.prog X.w) A (compareOp (pycmp o) (.int j t) (.int k u)) Q E s := by
  cases o with
  | lt => cases h; exact PySem.P.lt_int hQ
  | le => cases h; exact PySem.P.le_int hQ
  | gt => cases h; exact PySem.P.gt_int hQ
  | ge => cases h; exact PySem.P.ge_int hQ
  | _ => cases ho
theorem q_cmp {o : COp} (ho : ordc o = true) (ha : QE X scope x i W a (den GD F ca)) (hb : QE X scope x i W b (den GD F cb)) (hm : behindInMarks (pycmp o) b = false) :
    QE X scope x i W (.Compare a [pycmp o] [b] pos) (den GD F (.cmp o ca cb)) := by
  intro cenv A E s d p q hA h
  unfold den at h
  obtain ⟨y, h1, h2⟩ := bind_ok h
  obtain ⟨r, e, w⟩ := ha cenv A E s d y q hA h1
  subst e
  obtain ⟨z, h3, h4⟩ := bind_ok h2
  obtain ⟨r2, e2, _⟩ := hb cenv A E s d z q hA h3
  subst e2
  obtain ⟨dx, e3, h5⟩ := of_ok h4
  obtain ⟨dy, e4, h6⟩ := of_ok h5
  obtain ⟨b', e5, h7⟩ := of_ok h6
  cases h7
  have e3 : some r = some dx := e3
  have e4 : some r2 = some dy := e4
  cases e3
  cases e4
  obtain ⟨j, k, rfl, rfl⟩ := ord_ints ho e5
  refine ⟨.bl b', rfl, wpAny_Compare1 (wpAny_mono w (fun v s3 ⟨hv, k1⟩ => ?_) fun _ _ e => e) hm⟩
  obtain ⟨r4, e6, w2⟩ := hb cenv A E s3 d _ (q.keeps k1) hA h3
  cases e6
  refine wpAny_mono w2 (fun u s4 ⟨hu, k2⟩ => ?_) fun _ _ e => e
  cases hv
  cases hu
  exact cmp_ints ho e5 ⟨.bl _, keeps_trans k1 k2⟩
theorem q_chn {o o' : COp} (ho : ordc o = true) (ho' : ordc o' = true) (ha : QE X scope x i W a (den GD F ca)) (hb : QE X scope x i W b (den GD F cb)) (hc : QE X scope x i W c (den GD F cc)) (hm : lastMarks [pycmp o, pycmp o'] [b, c] = false := by with_unfolding_all rfl) :
    QE X scope x i W (.Compare a [pycmp o, pycmp o'] [b, c] pos) (den GD F (.chn o o' ca cb cc)) := by
  intro cenv A E s d p q hA h
  unfold den at h
  obtain ⟨y, h1, h2⟩ := bind_ok h
  obtain ⟨r, e, w⟩ := ha cenv A E s d y q hA h1
  subst e
  obtain ⟨z, h3, h4⟩ := bind_ok h2
  obtain ⟨r2, e2, _⟩ := hb cenv A E s d z q hA h3
  subst e2
  obtain ⟨dx, e3, h5⟩ := of_ok h4
  obtain ⟨dy, e4, h6⟩ := of_ok h5
  obtain ⟨b', e5, h7⟩ := of_ok h6
  have e3 : some r = some dx := e3
  have e4 : some r2 = some dy := e4
  cases e3
  cases e4
  obtain ⟨j, k, rfl, rfl⟩ := ord_ints ho e5
  have main : ∀ (r : D), p = (.imm r, W.set i (some (.imm d))) → (∀ (s4 : Shared), Keeps s s4 → b' = true → ∀ (t : Tok), wpAny (model X.prog X.w) A (compareChain pos (.int k t) [pycmp o'] [eval c cenv]) (fun y s' => HVal s'.heap r y ∧ Keeps s4 s') E s4) → (b' = false → r = .bl false) →
      ∃ r, p = (.imm r, W.set i (some (.imm d))) ∧ wpAny (model X.prog X.w) A (eval (.Compare a [pycmp o, pycmp o'] [b, c] pos) cenv) (fun y s' => HVal s'.heap r y ∧ Keeps s s') E s := by
    intro r hp ht hf
    refine ⟨r, hp, Compare_chain (wpAny_mono w (fun v s3 ⟨hv, k1⟩ => ?_) fun _ _ e => e) hm⟩
    refine chain_link ?_
    obtain ⟨r4, e6, w2⟩ := hb cenv A E s3 d _ (q.keeps k1) hA h3
    cases e6
    refine wpAny_mono w2 (fun u s4 ⟨hu, k2⟩ => ?_) fun _ _ e => e
    cases hv
    cases hu
    refine cmp_ints ho e5 (wpAny_truthy_bool ?_)
    cases b' with
    | true =>
      rw [if_pos rfl]
      exact wpAny_mono (ht s4 (keeps_trans k1 k2) rfl _) (fun y s5 ⟨a1, a2⟩ => ⟨a1, keeps_trans (keeps_trans k1 k2) a2⟩) fun _ _ e => e
    | false =>
      rw [if_neg Bool.false_ne_true, hf rfl]
      exact ⟨.bl _, keeps_trans k1 k2⟩
  cases b' with
  | true =>
    rw [if_pos rfl] at h7
    obtain ⟨z3, h8, h9⟩ := bind_ok h7
    obtain ⟨r3, e7, _⟩ := hc cenv A E s d z3 q hA h8
    subst e7
    obtain ⟨dy', e8, h10⟩ := of_ok h9
    obtain ⟨dz, e9, h11⟩ := of_ok h10
    obtain ⟨b2, e10, h12⟩ := of_ok h11
    cases h12
    have e8 : some (D.int k) = some dy' := e8
    have e9 : some r3 = some dz := e9
    cases e8
    cases e9
    obtain ⟨k2, l, ek, rfl⟩ := ord_ints ho' e10
    cases ek
    refine main (.bl b2) rfl (fun s4 k4 _ t => chain_last ?_) (fun z => by cases z)
    obtain ⟨r5, e11, w3⟩ := hc cenv A E s4 d _ (q.keeps k4) hA h8
    cases e11
    refine wpAny_mono w3 (fun y s5 ⟨hy, k5⟩ => ?_) fun _ _ e => e
    cases hy
    exact cmp_ints ho' e10 ⟨.bl _, k5⟩
  | false =>
    rw [if_neg Bool.false_ne_true] at h7
    cases h7
    exact main (.bl false) rfl (fun s4 k4 z => by cases z) fun _ => rfl
/-- isinstance(e, T) -/
theorem hval_kit {K : PySem.W.Frag} {h : Heap} {d : D} {v : Value} (hv : HVal h d v) (hd : isDic d = false) : ∃ P : Heap → Prop, PySem.W.KitX K v (.type (tyN d)) P ∧ P h ∧ v ≠ .builtin "__main__.__loader__#opaque" := by
  cases hv with
  | non => exact ⟨_, PySem.W.kitx_none, True.intro, fun z => nomatch z⟩
  | bl b => exact ⟨_, PySem.W.kitx_bool, True.intro, fun z => nomatch z⟩
  | int i t => exact ⟨_, PySem.W.kitx_int, True.intro, fun z => nomatch z⟩
  | str x t => exact ⟨_, PySem.W.kitx_str, True.intro, fun z => nomatch z⟩
  | tup e c => exact ⟨_, PySem.W.kitx_tuple, ⟨_, e, c⟩, fun z => nomatch z⟩
  | lst e c => exact ⟨_, PySem.W.kitx_list, ⟨_, e, c⟩, fun z => nomatch z⟩
  | scr e c => exact ⟨_, PySem.W.kitx_list, ⟨_, e, c⟩, fun z => nomatch z⟩
  | dic => cases hd
theorem q_blt {y : Str} {u : Value} (hg : scope.names.lookup y = some .globalImplicit) (hm : X.mg y = none) (hv : bootBuiltins y = some u) {cenv : PySem.Env} {A : Around} {E : Value → Shared → Prop} {s : Shared} {d : D} (q : QS X scope x W d cenv s) {Q : Value → Shared → Prop} (h : Q u s)
    (hn : y ≠ "__name__" := by decide) (hd : (y == ("__debug__" : Str)) = false := by decide) : wpAny (model X.prog X.w) A (eval (.Name y pos) cenv) Q E s := by
  obtain ⟨mb, h1, h2⟩ := q.mb
  exact Calls.Name_function_global (by rw [q.sc]; exact q.kind) (show cenv.scope.names.lookup y = _ by rw [q.sc]; exact hg) (Calls.loadGlobal_builtin (by rw [q.glob]; exact q.mg) hm (by rw [q.blt]; exact h1) ((h2 y hn).trans hv) h) hd
theorem q_isi {t : Ty} {y z : Str} (hg : scope.names.lookup z = some .globalImplicit) (hm : X.mg z = none) (hv : bootBuiltins z = some (.builtin "isinstance")) (hgt : scope.names.lookup y = some .globalImplicit) (hmt : X.mg y = none) (hvt : bootBuiltins y = some (.type (tyS t)))
    (hi : i < W.length) (hdx : (x == ("__debug__" : Str)) = false := by decide) (hnz : z ≠ "__name__" := by decide) (hdz : (z == ("__debug__" : Str)) = false := by decide) (hn : y ≠ "__name__" := by decide) (hd : (y == ("__debug__" : Str)) = false := by decide) :
    QE X scope x i W (.Call (.Name z p1) [.Name x p2, .Name y pos2] [] pos) (den GD F (.isi [t] (.v i))) := by
  intro cenv A E s d p q hA h
  unfold den at h
  obtain ⟨z, h1, h2⟩ := bind_ok h
  obtain ⟨r, e, w⟩ := q_x (F := F) (GD := GD) (pos := p2) hi hdx cenv A E s d z q hA h1
  subst e
  have hr : r = d := by
    unfold den at h1
    rw [List.getElem?_set_self hi] at h1
    cases h1; rfl
  obtain ⟨dx, e3, h5⟩ := of_ok h2
  have e3 : some r = some dx := e3
  cases e3
  split at h5
  · cases h5
    refine ⟨_, rfl, ?_⟩
    refine wpAny_Call_Name_kw (q_blt hg hm hv q ?_ hnz hdz)
    refine PyProof.Rows.callWith_builtin1 (e := .Name x p2) (rest := [.Name y pos2]) ?_ (by rfl) (by rfl)
    refine Calls.spliced_cons (wpAny_mono w (fun v s3 ⟨hv, k⟩ => ?_) fun _ _ e => e)
    refine Calls.spliced_cons (q_blt hgt hmt hvt (q.keeps k) (Calls.spliced_nil ?_) hn hd)
    obtain ⟨P, Z, pP, hl⟩ := hval_kit (K := X.K) hv (by rw [hr]; exact q.nd)
    refine PySem.W.kia_one Z (q.keeps k).kin pP (kit_D X.K r t) hl fun tk => ?_
    rw [List.any_cons, List.any_nil, Bool.or_false]
    exact ⟨.bl _, keeps_trans k (keeps_tok _ _)⟩
  · cases h5
theorem q_mod (ha : QE X scope x i W a (den GD F ca)) (hb : QE X scope x i W b (den GD F cb)) : QE X scope x i W (.BinOp a .Mod b pos) (den GD F (.bin .mod ca cb)) := by
  intro cenv A E s d p q hA h
  unfold den at h
  obtain ⟨y, h1, h2⟩ := bind_ok h
  obtain ⟨r, e, w⟩ := ha cenv A E s d y q hA h1
  subst e
  obtain ⟨z, h3, h4⟩ := bind_ok h2
  obtain ⟨r2, e2, _⟩ := hb cenv A E s d z q hA h3
  subst e2
  obtain ⟨dx, e3, h5⟩ := of_ok h4
  obtain ⟨dy, e4, h6⟩ := of_ok h5
  obtain ⟨b', e5, h7⟩ := of_ok h6
  have e3 : some r = some dx := e3
  have e4 : some r2 = some dy := e4
  cases e3
  cases e4
  cases r with
  | int j =>
    cases r2 with
    | int k =>
      have e5 : (if k ≠ 0 then some (D.int (j.fmod k), false) else none) = some b' := e5
      split at e5
      · rename_i hk
        cases e5
        cases h7
        refine ⟨.int (j.fmod k), rfl, wpAny_BinOp (wpAny_mono w (fun v s3 ⟨hv, k1⟩ => ?_) fun _ _ e => e)⟩
        obtain ⟨r4, e6, w2⟩ := hb cenv A E s3 d _ (q.keeps k1) hA h3
        cases e6
        refine wpAny_mono w2 (fun u s4 ⟨hu, k2⟩ => ?_) fun _ _ e => e
        cases hv
        cases hu
        exact PyProof.Rows.mod_int hk ⟨.int _ _, keeps_trans (keeps_trans k1 k2) (keeps_tok _ _)⟩
      · cases e5
    | _ => cases e5
  | _ => cases r2 <;> cases e5
end
end Kn

end

section
/-! K, any and all of a generator expression. -/
namespace Kn
open PySem PySem.Spec PyProof.Rows L2
theorem HVal.keepsP {h h' : Heap} {P : Addr} {vs : Array Value} {d : D} {v : Value} (hP : h.get? P = some { cls := .none, data := .fields vs }) (k : ∀ b o, b ≠ P → h.get? b = some o → h'.get? b = some o) : HVal h d v → HVal h' d v
  | .non => .non
  | .bl b => .bl b
  | .int i t => .int i t
  | .str x t => .str x t
  | .tup e c => .tup (k _ _ (fun z => by rw [z, hP] at e; cases e; cases c) e) c
  | .lst e c => .lst (k _ _ (fun z => by rw [z, hP] at e; cases e; cases c) e) c
  | .scr e c => .scr (k _ _ (fun z => by rw [z, hP] at e; cases e; cases c) e) c
  | .dic => .dic
/-- the names of a generator expression -/
structure GenSc (sc scope : Scope) (x : Str) : Prop where
  kind : scope.kind = .function
  co : scope.isCoroutine = false
  cell : ∀ y ∈ scope.names, y.2 ≠ .cell
  dot : scope.names.lookup (".0" : Str) = some NameKind.local
  loc : scope.names.lookup x = some .local
  free : ∀ y ∈ scope.names, y.2 = .free → sc.names.lookup y.1 = some .cell ∨ sc.names.lookup y.1 = some .free
def genScB (sc scope : Scope) (x : Str) : Bool :=
  decide (scope.kind = .function) && !scope.isCoroutine && decide (scope.names.lookup (".0" : Str) = some NameKind.local) && decide (scope.names.lookup x = some .local) &&
    scope.names.all fun y => !decide (y.2 = .cell) && (!decide (y.2 = .free) || decide (sc.names.lookup y.1 = some .cell) || decide (sc.names.lookup y.1 = some .free))
theorem genSc_by {sc scope : Scope} {x : Str} (h : genScB sc scope x = true) : GenSc sc scope x := by
  unfold genScB at h
  simp only [Bool.and_eq_true, Bool.or_eq_true, Bool.not_eq_true', decide_eq_true_eq, decide_eq_false_iff_not, List.all_eq_true] at h
  obtain ⟨⟨⟨⟨h1, h2⟩, h3⟩, h4⟩, h5⟩ := h
  refine ⟨h1, h2, fun y hy => (h5 y hy).1, h3, h4, fun y hy e => ?_⟩
  rcases (h5 y hy).2 with (z | z) | z
  · exact absurd e z
  · exact .inl z
  · exact .inr z
theorem testR_exc {r : R (RV × Kn.Env)} {c : Nat} {p : D} : testR r ≠ .exc c p := by
  unfold testR
  split <;> intro h <;> cases h
theorem genBs_exc {turn : D → R Bool} (ht : ∀ d c p, turn d ≠ .exc c p) : ∀ (ds : List D) (c : Nat) (p : D), genBs turn ds ≠ .exc c p
  | [], c, p, h => by cases h
  | d :: ds, c, p, h => by
    rw [genBs] at h
    split at h
    · cases h
    · cases e : turn d with
      | exc c' p' => exact ht d c' p' e
      | bad => rw [e] at h; cases h
      | ok b =>
        rw [e] at h
        have h : ((genBs turn ds).bind fun r => R.ok (b :: r)) = R.exc c p := h
        cases e2 : genBs turn ds with
        | exc c' p' => exact genBs_exc ht ds c' p' e2
        | bad => rw [e2] at h; cases h
        | ok r => rw [e2] at h; cases h
theorem genBs_get {turn : D → R Bool} : ∀ (ds : List D) (bs : List Bool), genBs turn ds = .ok bs → bs.length = ds.length ∧ ∀ (j : Nat) (d : D), ds[j]? = some d → isDic d = false ∧ ∃ b, bs[j]? = some b ∧ turn d = .ok b
  | [], bs, h => by cases h; exact ⟨rfl, fun j d e => by simp at e⟩
  | d :: ds, bs, h => by
    rw [genBs] at h
    split at h
    · cases h
    · rename_i hd
      obtain ⟨b, e1, h⟩ := bind_ok h
      obtain ⟨r, e2, h⟩ := bind_ok h
      cases h
      obtain ⟨l, g⟩ := genBs_get ds r e2
      refine ⟨by simp [l], fun j d' e => ?_⟩
      cases j with
      | zero => simp only [List.getElem?_cons_zero, Option.some.injEq] at e; subst e; exact ⟨Bool.eq_false_iff.mpr hd, b, rfl, e1⟩
      | succ j => simp only [List.getElem?_cons_succ] at e ⊢; exact g j d' e
/-- truth at place j -/
def trB (bs : List Bool) (j : Nat) : Bool := bs[j]?.getD false
theorem any_trB (bs : List Bool) : (List.range bs.length).any (trB bs) = bs.any id := by
  have : bs = (List.range bs.length).map (trB bs) := by
    apply List.ext_getElem
    · simp
    · intro i h1 h2
      simp [trB, List.getElem?_eq_getElem h1]
  conv => rhs; rw [this]
  rw [List.any_map]; rfl
theorem all_trB (bs : List Bool) : (List.range bs.length).all (trB bs) = bs.all id := by
  have : bs = (List.range bs.length).map (trB bs) := by
    apply List.ext_getElem
    · simp
    · intro i h1 h2
      simp [trB, List.getElem?_eq_getElem h1]
  conv => rhs; rw [this]
  rw [List.all_map]; rfl
section
variable {X : Cx} {pins : List (Addr × Obj)} {σ : L2.St} {H : Hp} {s : Shared}
/-- LamX.inv_table, the generators having moved on -/
theorem inv_tableG {P c : Addr} {q : Str} {ps more : Array Value} {h' : Heap} {g' : Array GenState} {d' : Drawn} {t' : Nat} (I : Inv X pins σ H s) (hP : H P = some (.tbl ps)) (k : ∀ b o, b ≠ P → s.heap.get? b = some o → h'.get? b = some o)
    (hm : h'.get? P = some { cls := .none, data := .fields (ps ++ more) }) (hc : s.heap.objs.size ≤ c) (ho : ∃ (oc : Obj) (vs : Array Value) (t : Tok), h'.get? c = some oc ∧ oc.data = .fields vs ∧ vs[1]? = some (.str q t)) (hg : AllBare g') :
    Inv X pins σ (upd (upd H P (.tbl (ps ++ more))) c (LamX.CodeO c q)) { s with heap := h', gens := g', drawn := d', toks := t' } := by
  have nC : H c = none := I.hok.fresh hc
  have nPc : P ≠ c := ne_of_none hP nC
  have at_ : ∀ b, b ≠ P → b ≠ c → upd (upd H P (.tbl (ps ++ more))) c (LamX.CodeO c q) b = H b := fun b h1 h2 => by rw [upd_ne h2, upd_ne h1]
  have atP : upd (upd H P (.tbl (ps ++ more))) c (LamX.CodeO c q) P = some (.tbl (ps ++ more)) := by rw [upd_ne nPc, upd_same]
  have nP : ∀ b u, H b = some u → (∀ q, u ≠ .tbl q) → b ≠ P := fun b u e q z => by
    rw [z, hP] at e
    exact q ps (Option.some.inj e).symm
  have nN : ∀ b, H b = none → b ≠ P := fun b e z => by
    rw [z, hP] at e
    cases e
  have lt' : ∀ b o, s.heap.get? b = some o → b ≠ c := fun b o e z => by
    rw [z] at e
    exact Nat.lt_irrefl _ (Nat.lt_of_lt_of_le (Heap.lt_size e) hc)
  have sm : ∀ b u, H b = some u → b ≠ c := fun b u e => ne_of_none e nC
  refine I.step (g' := g') (d' := d') (ch := []) (fun b hb => absurd hb (by simp)) (fun b o _ _ _ e n => k b o (nN b n) e) (fun b o _ _ _ e n => ⟨o.slots, k b o (nN b n) e⟩)
    (fun b o _ e n => by rw [at_ b (nN b n) (lt' b o e)]; exact n) (fun b o _ e => ?_) (fun b xs e => by rw [at_ b (nP b _ e (fun q z => by cases z)) (sm b _ e)]; exact e) (fun b o u e => by rw [at_ b (nP b _ e (fun q z => by cases z)) (sm b _ e)]; exact e) (fun b qs e => ?_) (fun m hn => ?_) (fun b u e => ?_) hg
  · by_cases hb : b = P
    · rw [hb]
      exact ⟨_, hm⟩
    · exact ⟨o, k b o hb e⟩
  · by_cases hb : b = P
    · rw [hb, hP] at e
      cases e
      rw [hb, atP]
      exact ⟨more, rfl⟩
    · rw [at_ b hb (sm b _ e), e]
      exact ⟨#[], by simp⟩
  · obtain ⟨ob, es, ep, ho, r⟩ := hn
    exact ⟨ob, es, ep, k _ ob (nN _ I.free) ho, r⟩
  · by_cases hb : b = c
    · rw [hb, upd_same] at e
      cases e
      rw [hb]
      obtain ⟨oc, vs, t, e1, e2, e3⟩ := ho
      exact ⟨⟨oc, vs, t, e1, e2, e3⟩, ⟨oc, e1⟩, fun h1 h2 ⟨oc, vs, t, a, b, c⟩ st => ⟨oc, vs, t, st _ a, b, c⟩⟩
    · by_cases hb2 : b = P
      · rw [hb2, atP] at e
        cases e
        rw [hb2]
        exact hm
      · rw [at_ b hb2 hb] at e
        refine (I.hok b u e).stay (fun d v hd q => k d v ?_ q) (fun d q => by rw [at_ d (nP d _ q (fun q z => by cases z)) (sm d _ q)]; exact q) fun d xs q => by rw [at_ d (nP d _ q (fun q z => by cases z)) (sm d _ q)]; exact q
        rcases hd with z | z
        · rw [z]
          exact hb2
        · exact nP d _ z (fun q z => by cases z)
/-- a table has grown by a code object -/
theorem tabs_grow {T : List (Addr × Str)} {P c' : Addr} {q : Str} {ps : Array Value} {pos : Pos} (hT : LamX.Tabs T H) (hm : (P, q) ∈ T) (hu : ∀ p ∈ T, p.1 = P → p.2 = q) (hP : H P = some (.tbl ps)) (ht : TriplesOk ps.toList)
    (ha : ∀ (pos : Pos) (cv : Value), codeAmong pos ps.toList = some cv → ∃ c, cv = .ref c ∧ H c = some (LamX.CodeO c q)) (nC : H c' = none) :
    LamX.ExtN H (upd (upd H P (.tbl (ps ++ #[rawInt pos.line, rawInt pos.col, .ref c']))) c' (LamX.CodeO c' q)) ∧ LamX.Tabs T (upd (upd H P (.tbl (ps ++ #[rawInt pos.line, rawInt pos.col, .ref c']))) c' (LamX.CodeO c' q)) := by
  have hE : LamX.ExtN H (upd (upd H P (.tbl (ps ++ #[rawInt pos.line, rawInt pos.col, .ref c']))) c' (LamX.CodeO c' q)) := fun b o e n => by
    rw [upd_ne (ne_of_none e nC), upd_ne (fun z => n ps (Option.some.inj (e.symm.trans (by rw [z]; exact hP))))]
    exact e
  have eL : (ps ++ #[rawInt pos.line, rawInt pos.col, .ref c']).toList = ps.toList ++ [rawInt pos.line, rawInt pos.col, .ref c'] := by simp
  refine ⟨hE, fun p hp => ?_⟩
  by_cases hb : p.1 = P
  · rw [hu p hp hb, hb]
    refine ⟨_, by rw [upd_ne (ne_of_none hP nC), upd_same], by rw [eL]; exact PySem.TriplesOk_snoc _ _ _ _ ht, fun p' cv hcv => ?_⟩
    rw [eL] at hcv
    rcases LamX.among_app _ ht hcv with z | z
    · obtain ⟨c0, e1, e2⟩ := ha p' cv z
      exact ⟨c0, e1, hE _ _ e2 LamX.codeO_ne⟩
    · exact ⟨c', z, upd_same⟩
  · obtain ⟨ps', a1, a2, a3⟩ := hT p hp
    refine ⟨ps', by rw [upd_ne (ne_of_none a1 nC), upd_ne hb]; exact a1, a2, fun p' cv hcv => ?_⟩
    obtain ⟨c0, e1, e2⟩ := a3 p' cv hcv
    exact ⟨c0, e1, hE _ _ e2 LamX.codeO_ne⟩
/-- what a value gives, as a walk -/
theorem walks_val {K : PySem.W.Frag} {G : Hp} {d : D} {ds : List D} {v : V} {xv : Value} {E : Value → Shared → Prop} {Q : Value → Shared → Prop} (hK : K = X.K) (I : Inv X pins σ H s) (sg : SubH G H) (r : Rep K G d v) (rv : RelV v xv) (hi : itemsOf d = some ds) (hd : isDic d = false)
    (h : ∀ (o : Obj) (fp : List Addr) (Pf : Nat → Value → Prop) (St : Nat → Heap → Prop), (∀ A' : Around, A'.handled = none → Walks X.prog X.w A' s.heap.objs.size fp [s.heap.objs.size] ds.length Pf St) → St 0 (s.heap.push o) →
      (∀ b ∈ fp, b = s.heap.objs.size ∨ ∃ u, s.heap.get? b = some u ∧ u.cls ≠ .none) → (∀ j u, Pf j u → ∃ d', ds[j]? = some d' ∧ HVal s.heap d' u) → Q (.ref s.heap.objs.size) { s with heap := s.heap.push o }) :
    wpAny (model X.prog X.w) X.A (pyIter xv) Q E s := by
  subst hK
  have item : ∀ {xs : List D} {vs : List V} {its : List Value} (rr : RepL X.K G xs vs) (rvs : Vals vs its) (j : Nat) (u : Value), its[j]? = some u → ∃ d', xs[j]? = some d' ∧ HVal s.heap d' u := by
    intro xs vs its rr rvs j u hj
    have hj2 : j < xs.length := by
      have h1 := rvs.length
      have h2 := rr.length
      have h3 := (List.getElem?_eq_some_iff.mp hj).1
      omega
    obtain ⟨v', e1, r1⟩ := rr.get (List.getElem?_eq_getElem hj2)
    obtain ⟨u', e2, r2⟩ := rvs.get e1
    rw [hj] at e2
    cases e2
    exact ⟨_, List.getElem?_eq_getElem hj2, hv_of I sg r1 r2⟩
  cases d with
  | lst xs =>
    obtain rfl : xs = ds := Option.some.inj hi
    simp only [Rep] at r
    obtain ⟨a, vs, e, g, rr⟩ := r
    subst e
    cases (show xv = Value.ref a from rv)
    obtain ⟨its, rvs, p, hz⟩ := I.list (.of (sg.lst g))
    have il := p.isList
    obtain ⟨ob, hob, hcl, _⟩ := id il
    have hsz : its.toArray.size = xs.length := by
      have h1 := rvs.length
      have h2 := rr.length
      simp; omega
    have hne : a ≠ s.heap.objs.size := fun z => Nat.lt_irrefl _ (z ▸ Heap.lt_size hob)
    refine wpAny_pyIter_list il ?_
    refine h _ [s.heap.objs.size, a] (fun i v => its.toArray[i]? = some v) (fun i h => h.IsListIter s.heap.objs.size a i ∧ h.IsList a its.toArray) (fun A' hA => ?_) ?_ ?_ ?_
    · have W := Walks.list (prog := X.prog) (w := X.w) hA s.heap.objs.size a hne its.toArray
      rw [hsz] at W
      exact W
    · exact ⟨⟨_, Heap.get?_push_size _ rfl, rfl, rfl⟩, il.at fun o e => Heap.get?_push_of_some _ e⟩
    · intro b hb
      rcases List.mem_cons.mp hb with z | z
      · exact .inl z
      · rw [List.mem_singleton] at z
        subst z
        exact .inr ⟨ob, hob, by rw [hcl]; exact fun z => nomatch z⟩
    · intro j u hj
      exact item rr rvs j u (by simpa using hj)
  | tup xs =>
    obtain rfl : xs = ds := Option.some.inj hi
    simp only [Rep] at r
    obtain ⟨a, vs, e, g, rr⟩ := r
    subst e
    cases (show xv = Value.ref a from rv)
    obtain ⟨its, rvs, p, hz⟩ := I.tuple (sg.sqT g)
    have il : s.heap.IsTuple a its.toArray := p
    obtain ⟨ob, hob, hcl, _⟩ := id il
    have hsz : its.toArray.size = xs.length := by
      have h1 := rvs.length
      have h2 := rr.length
      simp; omega
    have hne : a ≠ s.heap.objs.size := fun z => Nat.lt_irrefl _ (z ▸ Heap.lt_size hob)
    refine wpAny_pyIter_tuple il ?_
    refine h _ [s.heap.objs.size, a] (fun i v => its.toArray[i]? = some v) (fun i h => h.IsTupleIter s.heap.objs.size a i ∧ h.IsTuple a its.toArray) (fun A' hA => ?_) ?_ ?_ ?_
    · have W := Walks.tuple (prog := X.prog) (w := X.w) hA s.heap.objs.size a hne its.toArray
      rw [hsz] at W
      exact W
    · exact ⟨⟨_, Heap.get?_push_size _ rfl, rfl, rfl⟩, il.at fun o e => Heap.get?_push_of_some _ e⟩
    · intro b hb
      rcases List.mem_cons.mp hb with z | z
      · exact .inl z
      · rw [List.mem_singleton] at z
        subst z
        exact .inr ⟨ob, hob, by rw [hcl]; exact fun z => nomatch z⟩
    · intro j u hj
      exact item rr rvs j u (by simpa using hj)
  | str y =>
    obtain rfl : strItems y = ds := Option.some.inj hi
    simp only [Rep] at r
    obtain ⟨r, _⟩ := r
    subst r
    obtain ⟨t, q⟩ := (show ∃ t, xv = Value.str (txS y) t from rv)
    subst q
    refine wpAny_pyIter_str fun o St W hst => ?_
    have hsz : (txS y).cps.size = (strItems y).length := by simp [txS, strItems]
    rw [hsz] at W
    refine h o _ _ St W hst (fun b hb => .inl (by simpa using hb)) fun j u hj => ?_
    obtain ⟨c, u', e1, e2⟩ := hj
    subst e2
    refine ⟨.str [c], ?_, .str [c] u'⟩
    have : y[j]? = some c := by simpa [txS] using e1
    rw [show strItems y = y.map fun c => D.str [c] from rfl, List.getElem?_map, this]; rfl
  | scr ns =>
    obtain rfl : ns.map D.int = ds := Option.some.inj hi
    simp only [Rep] at r
    obtain ⟨a, e, g⟩ := r
    subst e
    cases (show xv = Value.ref a from rv)
    obtain ⟨its, rvs, p, hz⟩ := I.list (sg.sqL g)
    have il := p.isList
    obtain ⟨ob, hob, hcl, _⟩ := id il
    have hsz : its.toArray.size = (ns.map D.int).length := by
      have h1 := rvs.length
      simp at h1 ⊢; omega
    have hne : a ≠ s.heap.objs.size := fun z => Nat.lt_irrefl _ (z ▸ Heap.lt_size hob)
    refine wpAny_pyIter_list il ?_
    refine h _ [s.heap.objs.size, a] (fun i v => its.toArray[i]? = some v) (fun i h => h.IsListIter s.heap.objs.size a i ∧ h.IsList a its.toArray) (fun A' hA => ?_) ?_ ?_ ?_
    · have W := Walks.list (prog := X.prog) (w := X.w) hA s.heap.objs.size a hne its.toArray
      rw [hsz] at W
      exact W
    · exact ⟨⟨_, Heap.get?_push_size _ rfl, rfl, rfl⟩, il.at fun o e => Heap.get?_push_of_some _ e⟩
    · intro b hb
      rcases List.mem_cons.mp hb with z | z
      · exact .inl z
      · rw [List.mem_singleton] at z
        subst z
        exact .inr ⟨ob, hob, by rw [hcl]; exact fun z => nomatch z⟩
    · intro j u hj
      exact item (repL_ints ns) rvs j u (by simpa using hj)
  | dic ks vs => cases hd
  | _ => cases hi
end
section
variable {X : Cx} {P : Pm} {E : XK} {GD : Nat → D} {F : Nat → Fn} {pins : List (Addr × Obj)} {σ : L2.St} {H : Hp} {s : Shared}
/-- the generator g, ready to be walked -/
def ReadyG (X : Cx) (pins : List (Addr × Obj)) (σ : L2.St) (bs : List Bool) (R : Hp → Prop) (g : Addr) (s5 : Shared) : Prop :=
  ∃ (fp wr : List Addr) (G : Array GenState → Array GenState → Prop) (Fz : Nat → Value → Prop) (St : Nat → Shared → Prop),
    WalksS X.prog X.w X.A.in1 g fp wr G bs.length Fz St ∧ St 0 s5 ∧ TruthOf X.prog X.w X.A.in1 Fz (trB bs) ∧ ∀ s', Moved wr G s5 s' → ∃ H2, Inv X pins σ H2 s' ∧ R H2
theorem gen_core {c Pt : Addr} {elt iter : Expr} {x : Str} {px gpos : Pos} {scope : Scope} {k i : Nat} {cs ce : CE} {fv : List Nat} {al : Bool} {Q : VK}
    (hK : P.K = X.K) (hr : Room k X.A) (TB : LamX.TabB X.base X.mg c Pt) (hcode : X.env.code = .ref c) (hmT : (Pt, X.env.qual ++ "<genexpr>") ∈ P.T) (hu : ∀ q ∈ P.T, q.1 = Pt → q.2 = X.env.qual ++ "<genexpr>") (S : GenSc X.env.scope scope x)
    (hi : PE X iter (tE P E (den GD F cs))) (hel : ∀ W : Kn.Env, W.length = X.N.length → (∀ (j : Nat) (e : D), W[j]? ≠ some (some (.own e))) → QE X scope x i W elt (den GD F ce))
    (hs : ∀ v, genFold iter X.env v = pure v) (I : Inv X pins σ H s) (h : tE P E (den GD F (.gen al fv i cs ce)) σ H Q) :
    wpAny (model X.prog X.w) X.A (eval (.GeneratorExp elt [⟨.Name x px, iter, [], 0⟩] scope gpos) X.env) (fun gv s5 => ∃ g bs, gv = .ref g ∧ ReadyG X pins σ bs (fun H2 => Q (.bl (if al then bs.all id else bs.any id)) H2) g s5) X.xe s := by
  obtain ⟨ρ, G, sm, h⟩ := h
  unfold den at h
  have hfree : ∀ y ∈ scope.names, y.2 = .free → ∃ c, X.env.cells.lookup y.1 = some c := fun y hy e => by
    rcases S.free y hy e with k | k
    · exact I.ok.has _ (.inl k)
    · exact I.ok.has _ (.inr k)
  refine wpAny_GeneratorExp_walksQ hr.hd S.co (closure_ok hfree) S.cell S.dot S.loc S.kind (by have := hr.dp; omega) ?_ hs
  refine thn (hi.run pins s σ H (fun v H1 => ∃ d ds bs ρ3 G3, StE P.K P.T σ ρ H G ρ3 H1 G3 ∧ Rep P.K G3 d v ∧ isDic d = false ∧ itemsOf d = some ds ∧ genBs (fun d => testR (den GD F ce ((mask ρ3).set i (some (.imm d))))) ds = .ok bs ∧
      EndX P E σ ρ3 H1 G3 (OkE P σ H Q) (.ok (.imm (.bl (if al then bs.all id else bs.any id)), ρ3))) I ⟨ρ, G, sm, h.bindS fun xx ρ1 H1 G1 _ st1 h1 v rv => ?_⟩) fun xv s1 ⟨v, H1, I1, r1, d, ds, bs, ρ3, G3, st3, rd3, nd3, hds, hbs, hend⟩ => ?_
  · obtain ⟨z, e1, h1⟩ := h1.of
    obtain ⟨G2, st2, r2, _⟩ := fz_ok sm st1 rv e1
    by_cases hdz : isDic z.1 = true
    · rw [if_pos hdz] at h1
      exact h1.elim
    rw [if_neg hdz] at h1
    obtain ⟨ds, e2, h1⟩ := h1.of
    obtain ⟨G3, stA⟩ := fzAll_ok st2.sim fv
    have st3 := st2.trans stA
    cases q : genBs (fun d => testR (den GD F ce ((mask (fzAll z.2 fv)).set i (some (.imm d))))) ds with
    | bad => rw [q] at h1; exact h1.elim
    | exc c p => exact absurd q (genBs_exc (fun d c p => testR_exc) ds c p)
    | ok bs =>
      rw [q] at h1
      exact ⟨z.1, ds, bs, _, G3, st3, Rep.sub stA.st.sub _ r2, Bool.eq_false_iff.mpr hdz, e2, q, h1.move st3⟩
  · obtain ⟨lb, gb⟩ := genBs_get ds bs hbs
    have sg : SubH G3 H1 := st3.sim.sub
    have rd3' : Rep X.K G3 d v := by rw [← hK]; exact rd3
    refine walks_val rfl I1 sg rd3' r1 hds nd3 fun o fp Pf St W hst hfp hPf => ?_
    obtain ⟨ps, hP, ht, ha⟩ := st3.sim.tabs _ hmT
    have hPs : s1.heap.get? Pt = some { cls := .none, data := .fields ps } := I1.hok Pt _ hP
    have hPlt : Pt < s1.heap.objs.size := Heap.lt_size hPs
    have hP2 : (s1.heap.push o).get? Pt = some { cls := .none, data := .fields ps } := Heap.get?_push_of_some _ hPs
    have cd : PySem.W.CodeHd (s1.heap.push o) c Pt := TB.code.keeps fun b u e => Heap.get?_push_of_some _ (I1.bk b u e)
    have lim2 : (s1.heap.push o).NoLimit := I1.nolimit.push o
    have hbP : ∀ b u, X.base.get? b = some u → b ≠ Pt := fun b u e z => by
      have := (I1.bs b u e).2
      rw [z, hP] at this
      cases this
    have cont : ∀ (code : Value) (h3 : Heap) (tk : Nat) (ps' : Array Value), Heap.ExtBut Pt (s1.heap.push o) h3 → (s1.heap.push o).objs.size ≤ h3.objs.size → h3.get? Pt = some { cls := .none, data := .fields ps' } →
        (∀ (h5 : Heap) (g5 : Array GenState) (d5 : Drawn) (t5 : Nat), AllBare g5 → (∀ b u, b ≠ s1.heap.objs.size → h3.get? b = some u → h5.get? b = some u) → ∃ H2, Inv X pins σ H2 { s1 with heap := h5, gens := g5, drawn := d5, toks := t5 } ∧ LamX.ExtN H1 H2 ∧ LamX.Tabs P.T H2) →
        wpAny (model X.prog X.w) X.A (builtinsFor X.env.globals X.env.builtins) (fun bi s₄ =>
          ∃ Ia fp wr n₀ Pf St₀ pz Fz, Value.ref s1.heap.objs.size = .ref Ia ∧ (∀ A' : Around, A'.handled = none → Walks X.prog X.w A' Ia fp wr n₀ Pf St₀) ∧ St₀ 0 s₄.heap ∧ (∀ b ∈ fp, b < s₄.heap.objs.size) ∧ s₄.heap.NoLimit ∧ cStatics ∉ wr ∧
            (∀ href : Heap, (∀ b o, s₄.heap.get? b = some o → href.get? b = some o) →
              QuietGen X.prog X.w (genEnv scope (cloFrom X.env.cells scope.names []) s₄.heap.objs.size code bi X.env) x [] elt (List.range s₄.heap.objs.size) wr Pf pz Fz href) ∧
            (∀ a h₅ tk gs, gs.bare = true → s₄.heap.objs.size < a → h₅.objs.size = a + 1 → (∀ b o, s₄.heap.get? b = some o → h₅.get? b = some o) →
              WalksS X.prog X.w X.A.in4 a (a :: s₄.heap.objs.size :: List.range s₄.heap.objs.size) (s₄.heap.objs.size :: wr) (GenOnlyQ s₄.gens.size) (passing pz n₀ 0).length
                (fun j y => ∃ i, (passing pz n₀ 0)[j]? = some i ∧ Fz i y) (GenAt X.prog X.w X.A.in4 a s₄.gens.size s₄.heap.objs.size (List.range s₄.heap.objs.size) wr pz n₀ Fz) →
              GenAt X.prog X.w X.A.in4 a s₄.gens.size s₄.heap.objs.size (List.range s₄.heap.objs.size) wr pz n₀ Fz 0 { s₄ with gens := s₄.gens.push gs, toks := tk, heap := h₅ } →
              ∃ g bs, (Value.ref a) = .ref g ∧ ReadyG X pins σ bs (fun H2 => Q (.bl (if al then bs.all id else bs.any id)) H2) g { s₄ with gens := s₄.gens.push gs, toks := tk, heap := h₅ })) X.xe { s1 with heap := h3, toks := tk } := by
      intro code h3 tk ps' hx hsz hP3 hinv
      obtain ⟨bm, ob, e1, e2, e3, e4, e5, e6, e7, e8⟩ := TB.bm
      have hcP : cStatics ≠ Pt := fun e => by
        obtain ⟨_, hns, _⟩ := I1.nolimit
        obtain ⟨o', es, ep, ho, hd, _⟩ := hns
        rw [e, hPs] at ho
        cases ho
        cases hd
      have hcl : cStatics < s1.heap.objs.size := let ⟨_, hns, _⟩ := I1.nolimit; hns.lt
      have sz2 : (s1.heap.push o).objs.size = s1.heap.objs.size + 1 := Heap.size_push ..
      have hle : s1.heap.objs.size ≤ h3.objs.size := Nat.le_trans (by rw [sz2]; exact Nat.le_succ _) hsz
      have keep3 : ∀ b u, b ≠ Pt → s1.heap.get? b = some u → h3.get? b = some u := fun b u hb e => hx b u hb (Heap.get?_push_of_some _ e)
      refine wpAny_builtinsFor (m := X.mg) (by rw [I1.ok.glob]; exact ((I1.mod.glob.keeps I1.bk).push o).extBut hx TB.gP) e1 e2 (keep3 _ _ e4 (I1.bk _ _ e5)) e6 e7 e8 ?_
      refine ⟨s1.heap.objs.size, fp, [s1.heap.objs.size], ds.length, Pf, St, (fun _ => true), (fun j y => ∃ b, bs[j]? = some b ∧ (y = .bool b ∨ ∃ k t, y = .int k t ∧ b = (k != 0))), rfl, W, ?_, ?_, lim2.extBut hx hcP, ?_, ?_, ?_⟩
      · refine (W X.A hr.hd).frame _ _ _ hst fun b hb u e => hx b u (fun z => ?_) e
        rcases hfp b hb with z2 | ⟨u2, z2, z3⟩
        · exact Nat.ne_of_lt hPlt (z.symm.trans z2)
        · rw [z, hPs] at z2
          cases z2
          exact z3 rfl
      · intro b hb
        rcases hfp b hb with z | ⟨u2, z2, _⟩
        · rw [z]
          exact Nat.lt_of_lt_of_le (by rw [sz2]; exact Nat.lt_succ_self _) hsz
        · exact Nat.lt_of_lt_of_le (Heap.lt_size z2) hle
      · intro z
        rcases List.mem_cons.mp z with z | z
        · exact Nat.ne_of_lt hcl z
        · cases z
      · intro href hhref
        refine ⟨fun A' E' j u s₂ m₂ hA hPv hn hm hk => ?_, fun A' E' j u s₂ m₂ hA hPv hp hn hm hk => ?_⟩
        · simp only [List.forIn_nil]
          exact wpAny_pure ⟨rfl, keeps_refl _⟩
        · obtain ⟨d', ed, hv⟩ := hPf j u hPv
          obtain ⟨nd', b, eb, et⟩ := gb j d' ed
          have kk : ∀ b u, b ≠ Pt → s1.heap.get? b = some u → s₂.heap.get? b = some u := fun b u hb e => by
            have hl := Heap.lt_size e
            refine hk b (List.mem_range.mpr ?_) (fun z => ?_) u (hhref b u (keep3 b u hb e))
            · exact Nat.lt_of_lt_of_le hl hle
            · rcases List.mem_cons.mp z with z | z
              · exact Nat.lt_irrefl _ (z ▸ hl)
              · cases z
          have kb : ∀ b u, X.base.get? b = some u → s₂.heap.get? b = some u := fun b u e => kk b u (hbP b u e) (I1.bk b u e)
          have cm : ∀ {y c}, (cloFrom X.env.cells scope.names []).lookup y = some c → X.env.cells.lookup y = some c := fun {y c} e => by
            rcases cloFrom_mem (PySem.mem_of_lookup e) with hm | ⟨h1, h2⟩
            · cases hm
            · obtain ⟨c1, hc⟩ := hfree _ h1 rfl
              have hc : X.env.cells.lookup y = some c1 := hc
              have e2 : c = c1 := by
                rw [h2, hc] <;> rfl
              rw [e2]
              exact hc
          have look : ∀ {y}, scope.names.lookup y = some .free → ∃ c, (cloFrom X.env.cells scope.names []).lookup y = some c := fun {y} hl => by
            have hy : (y, NameKind.free) ∈ scope.names := PySem.mem_of_lookup hl
            exact mem_lookup (cloFrom_has (cells := X.env.cells) (acc := []) hy)
          have qs : QS X scope x (mask ρ3) d' (genEnv scope (cloFrom X.env.cells scope.names []) h3.objs.size code builtinsNs X.env) s₂ := by
            obtain ⟨mb, b1, b2⟩ := I1.mod.blt
            refine ⟨rfl, S.kind, I1.ok.glob, rfl, S.loc, ⟨m₂, u, hn, hm, hv.keepsP hPs kk⟩, nd', ?_, I1.mod.kin.keeps kb, I1.mod.glob.keeps kb, mb, b1.keeps kb, b2⟩
            intro jj y e w hN hf
            obtain ⟨m, hnl, hl⟩ := I1.loc
            obtain ⟨vv, ev, rv⟩ := st3.sim.imm jj e (isI_mask w)
            have hvis : Vis X.env.scope y := (S.free _ (PySem.mem_of_lookup hf) rfl).elim (fun k => .inr (.inl k)) (fun k => .inr (.inr k))
            obtain ⟨w', r, q⟩ := hl jj y vv hN ev hvis
            obtain ⟨c2, h2⟩ := look hf
            have c1 := cm h2
            have hvv : HVal s1.heap e w' := hv_of I1 sg (by rw [← hK]; exact rv) r
            rcases q with ⟨k', _⟩ | ⟨_, c3, e', z⟩
            · have k' : X.env.scope.names.lookup y = some .local := k'
              rcases S.free _ (PySem.mem_of_lookup hf) rfl with k2 | k2 <;> rw [show X.env.scope.names.lookup y = _ from k2] at k' <;> cases k'
            · rw [c1] at e'
              cases e'
              obtain ⟨oo, z1, z2⟩ := z
              exact ⟨c2, w', h2, ⟨oo, kk _ _ (fun z => by rw [z, hPs] at z1; cases z1; cases z2) z1, z2⟩, hvv.keepsP hPs kk⟩
          have hlen : (mask ρ3).length = X.N.length := by
            have h1 := st3.sim.len
            unfold mask
            rw [List.length_map, h1]
            exact I1.len
          have et' := et
          unfold testR at et'
          split at et'
          · rename_i b0 ρ0 eq0
            cases et'
            obtain ⟨r, e0, w0⟩ := hel _ hlen (fun j e => isO_mask) _ A' E' s₂ d' _ qs hA eq0
            cases e0
            refine wpAny_mono w0 (fun y s3 ⟨a1, a2⟩ => ⟨⟨b, eb, ?_⟩, a2⟩) fun _ _ e => e
            cases a1
            exact .inl rfl
          · rename_i k0 ρ0 eq0
            cases et'
            obtain ⟨r, e0, w0⟩ := hel _ hlen (fun j e => isO_mask) _ A' E' s₂ d' _ qs hA eq0
            cases e0
            refine wpAny_mono w0 (fun y s3 ⟨a1, a2⟩ => ⟨⟨_, eb, ?_⟩, a2⟩) fun _ _ e => e
            cases a1
            exact .inr ⟨_, _, rfl, rfl⟩
          · cases et'
      · intro g h5 tk5 gs hgb hag hsz5 hk5 W5 hat
        simp only [GxR.passing_true, List.length_range] at W5
        rw [← lb] at W5 hat
        refine ⟨g, bs, rfl, _, _, _, _, _, W5.in4_1, hat, ?_, fun s' hm => ?_⟩
        · intro j y sj Qj Ej hy hQj
          obtain ⟨i, hij, b, eb, hyb⟩ := hy
          obtain ⟨hj, ej⟩ := List.getElem?_eq_some_iff.mp hij
          rw [List.getElem_range] at ej
          subst ej
          have hQ2 : Qj (trB bs j) sj := hQj
          unfold trB at hQ2
          rw [eb] at hQ2
          rcases hyb with rfl | ⟨k, t, rfl, rfl⟩
          · exact wpAny_truthy_bool hQ2
          · exact PySem.P.truthy_int hQ2
        · have nwr : ∀ b u, h3.get? b = some u → b ≠ s1.heap.objs.size → b ∉ h3.objs.size :: [s1.heap.objs.size] := fun b u e hn hb => by
            have hl := Heap.lt_size e
            rcases List.mem_cons.mp hb with z | z
            · rw [z] at hl
              exact Nat.lt_irrefl _ hl
            · rcases List.mem_cons.mp z with z | z
              · exact hn z
              · cases z
          obtain ⟨H2, J, x2, t2⟩ := hinv s'.heap s'.gens s'.drawn s'.toks (AllBare.movedS (I1.bare.push hgb) hm) fun b u hb e => hm.heap b u (nwr b u e hb) (hk5 b u e)
          rw [GxR.sh_eta s1 s' hm.os] at J
          refine ⟨H2, J, ?_⟩
          have stE := Sim.ext st3.sim x2 t2
          exact (hend.move stE).ok stE.sim _ (rep_bl (K := P.K) (G := G3))
    refine ⟨lim2, ?_⟩
    have bareK : ∀ {b : Addr} {u : Obj}, s1.heap.get? b = some u → b ≠ s1.heap.objs.size := fun {b u} e z => Nat.lt_irrefl _ (z ▸ Heap.lt_size e)
    cases hf : codeAmong gpos ps.toList with
    | none =>
      refine wpAny_genexprCodeX hcode (cd.code hP2 ht) (cd.tab hP2) hf fun c' h' tk hx hge hlt hco' hrec htab' _ => ?_
      obtain ⟨c2, oc, vs, t, e2, hoc, hd, hv⟩ := hrec
      cases e2
      have hge1 : s1.heap.objs.size < c' := by
        have hg : (s1.heap.push o).objs.size ≤ c' := hge
        rw [Heap.size_push] at hg
        exact hg
      have nC : H1 c' = none := I1.hok.fresh (Nat.le_of_lt hge1)
      refine cont _ h' tk _ hx (Nat.le_trans hge (Nat.le_of_lt hlt)) htab'.2 fun h5 g5 d5 t5 hg5 k5 => ?_
      have x2 := tabs_grow (pos := gpos) st3.sim.tabs hmT hu hP ht ha nC
      refine ⟨_, inv_tableG (more := #[rawInt gpos.line, rawInt gpos.col, .ref c']) I1 hP (fun b u hb e => k5 b u (bareK e) (hx b u hb (Heap.get?_push_of_some _ e))) (k5 _ _ (bareK hPs) htab'.2) (Nat.le_of_lt hge1) ⟨oc, vs, t, k5 _ _ (Nat.ne_of_gt hge1) hoc, hd, hv⟩ hg5, x2.1, x2.2⟩
    | some cv =>
      refine wpAny_genexprCode_hit hcode (cd.code hP2 ht) hf ?_
      refine cont cv (s1.heap.push o) s1.toks ps (Heap.ExtBut.refl _ _) (Nat.le_refl _) hP2 fun h5 g5 d5 t5 hg5 k5 => ?_
      have J := GxR.inv_tab (more := #[]) (h' := h5) (g' := g5) (d' := d5) (t' := t5) I1 hP (fun b u hb e => k5 b u (bareK e) (Heap.get?_push_of_some _ e)) (by simpa using k5 _ _ (bareK hPs) hP2) hg5
      have eH : upd H1 Pt (.tbl (ps ++ #[])) = H1 := by
        funext b
        by_cases hb : b = Pt
        · subst hb; rw [upd_same, hP]; simp
        · rw [upd_ne hb]
      rw [eH] at J
      exact ⟨H1, J, LamX.ExtN.refl _, st3.sim.tabs⟩
/-- any(e for x in s) -/
theorem ke_any {c Pt : Addr} {elt iter : Expr} {x : Str} {px gpos p pos : Pos} {scope : Scope} {k i : Nat} {cs ce : CE} {fv : List Nat}
    (hK : P.K = X.K) (hg : Gl X "any") (hm : X.mg "any" = none) (hr : Room k X.A) (TB : LamX.TabB X.base X.mg c Pt) (hcode : X.env.code = .ref c) (hmT : (Pt, X.env.qual ++ "<genexpr>") ∈ P.T) (hu : ∀ q ∈ P.T, q.1 = Pt → q.2 = X.env.qual ++ "<genexpr>") (S : GenSc X.env.scope scope x)
    (hi : PE X iter (tE P E (den GD F cs))) (hel : ∀ W : Kn.Env, W.length = X.N.length → (∀ (j : Nat) (e : D), W[j]? ≠ some (some (.own e))) → QE X scope x i W elt (den GD F ce))
    (hs : ∀ v, genFold iter X.env v = pure v := by intro v; rfl)
    (he : starEach [.GeneratorExp elt [⟨.Name x px, iter, [], 0⟩] scope gpos] X.env = (false, eval (.GeneratorExp elt [⟨.Name x px, iter, [], 0⟩] scope gpos) X.env) :: starEach [] X.env := by rfl) :
    PE X (.Call (.Name "any" p) [.GeneratorExp elt [⟨.Name x px, iter, [], 0⟩] scope gpos] [] pos) (tE P E (den GD F (.gen false fv i cs ce))) := by
  refine ⟨fun pins s σ H Q I h => ?_⟩
  refine wpAny_Call_Name_kw (ld_blt I hg hm bo_any ?_)
  refine PyProof.Rows.callWith_builtin1 ?_ he (by rfl)
  rw [he]
  show wpAny _ _ (spliced ((false, eval (.GeneratorExp elt [⟨.Name x px, iter, [], 0⟩] scope gpos) X.env) :: backTo pos (starEach [] X.env))) _ _ s
  refine Calls.spliced_cons (wpAny_mono (gen_core hK hr TB hcode hmT hu S hi hel hs I h) (fun gv s5 ⟨g, bs, e, hG⟩ => ?_) fun _ _ e => e)
  subst e
  obtain ⟨fp, wr, G, Fz, St, W, hst, htr, hI⟩ := hG
  refine Calls.spliced_nil ?_
  refine call_any_walkS (W.self 0 _ _ _ hst ⟨g, fp, wr, G, _, Fz, St, _, rfl, W, hst, htr, fun s' hmv => ?_⟩)
  obtain ⟨H2, J, hQ⟩ := hI s' hmv
  refine ⟨.bl _, H2, J, rfl, ?_⟩
  rw [any_trB bs]
  exact hQ
/-- all(e for x in s) -/
theorem ke_all {c Pt : Addr} {elt iter : Expr} {x : Str} {px gpos p pos : Pos} {scope : Scope} {k i : Nat} {cs ce : CE} {fv : List Nat}
    (hK : P.K = X.K) (hg : Gl X "all") (hm : X.mg "all" = none) (hr : Room k X.A) (TB : LamX.TabB X.base X.mg c Pt) (hcode : X.env.code = .ref c) (hmT : (Pt, X.env.qual ++ "<genexpr>") ∈ P.T) (hu : ∀ q ∈ P.T, q.1 = Pt → q.2 = X.env.qual ++ "<genexpr>") (S : GenSc X.env.scope scope x)
    (hi : PE X iter (tE P E (den GD F cs))) (hel : ∀ W : Kn.Env, W.length = X.N.length → (∀ (j : Nat) (e : D), W[j]? ≠ some (some (.own e))) → QE X scope x i W elt (den GD F ce))
    (hs : ∀ v, genFold iter X.env v = pure v := by intro v; rfl)
    (he : starEach [.GeneratorExp elt [⟨.Name x px, iter, [], 0⟩] scope gpos] X.env = (false, eval (.GeneratorExp elt [⟨.Name x px, iter, [], 0⟩] scope gpos) X.env) :: starEach [] X.env := by rfl) :
    PE X (.Call (.Name "all" p) [.GeneratorExp elt [⟨.Name x px, iter, [], 0⟩] scope gpos] [] pos) (tE P E (den GD F (.gen true fv i cs ce))) := by
  refine ⟨fun pins s σ H Q I h => ?_⟩
  refine wpAny_Call_Name_kw (ld_blt I hg hm bo_all ?_)
  refine PyProof.Rows.callWith_builtin1 ?_ he (by rfl)
  rw [he]
  show wpAny _ _ (spliced ((false, eval (.GeneratorExp elt [⟨.Name x px, iter, [], 0⟩] scope gpos) X.env) :: backTo pos (starEach [] X.env))) _ _ s
  refine Calls.spliced_cons (wpAny_mono (gen_core hK hr TB hcode hmT hu S hi hel hs I h) (fun gv s5 ⟨g, bs, e, hG⟩ => ?_) fun _ _ e => e)
  subst e
  obtain ⟨fp, wr, G, Fz, St, W, hst, htr, hI⟩ := hG
  refine Calls.spliced_nil ?_
  refine call_all_walkS (W.self 0 _ _ _ hst ⟨g, fp, wr, G, _, Fz, St, _, rfl, W, hst, htr, fun s' hmv => ?_⟩)
  obtain ⟨H2, J, hQ⟩ := hI s' hmv
  refine ⟨.bl _, H2, J, rfl, ?_⟩
  rw [all_trB bs]
  exact hQ
end
theorem uniq_of : ∀ {l : List (Addr × Str)}, (l.map Prod.fst).Nodup → ∀ {p : Addr × Str}, p ∈ l → ∀ q ∈ l, q.1 = p.1 → q.2 = p.2
  | [], _, p, hp => by cases hp
  | a :: l, nd, p, hp => by
    intro q hq e
    rw [List.map_cons, List.nodup_cons] at nd
    have hp' := List.mem_cons.mp hp
    have hq' := List.mem_cons.mp hq
    rcases hp' with h1 | h1
    · rcases hq' with h2 | h2
      · rw [h1, h2]
      · exact absurd (show a.1 ∈ l.map Prod.fst from List.mem_map.mpr ⟨q, h2, by rw [e, h1]⟩) nd.1
    · rcases hq' with h2 | h2
      · exact absurd (show a.1 ∈ l.map Prod.fst from List.mem_map.mpr ⟨p, h1, by rw [← e, h2]⟩) nd.1
      · exact uniq_of nd.2 h1 q h2 e
section
variable {X : Cx} {T : List (Addr × Str)}
theorem minI_is (n : Int) (ns : List Int) : ∀ m ∈ n :: ns, (∀ y ∈ n :: ns, m ≤ y) → m = minI n ns := by
  have key : ∀ (ns : List Int) (n : Int), (minI n ns ∈ n :: ns) ∧ ∀ y ∈ n :: ns, minI n ns ≤ y := by
    intro ns
    induction ns with
    | nil => intro n; simp [minI]
    | cons x r ih =>
      intro n
      have h := ih (if x < n then x else n)
      have e : minI n (x :: r) = minI (if x < n then x else n) r := rfl
      rw [e]
      refine ⟨?_, fun y hy => ?_⟩
      · rcases List.mem_cons.mp h.1 with q | q
        · rw [q]; split <;> simp
        · exact List.mem_cons_of_mem _ (List.mem_cons_of_mem _ q)
      · have h0 := h.2 _ (List.mem_cons_self ..)
        rcases List.mem_cons.mp hy with rfl | hy
        · exact Int.le_trans h0 (by split <;> omega)
        · rcases List.mem_cons.mp hy with rfl | hy
          · exact Int.le_trans h0 (by split <;> omega)
          · exact h.2 y (List.mem_cons_of_mem _ hy)
  intro m hm hle
  have h := key ns n
  have h1 := h.2 m hm
  have h2 := hle _ h.1
  omega
theorem maxI_is (n : Int) (ns : List Int) : ∀ m ∈ n :: ns, (∀ y ∈ n :: ns, y ≤ m) → m = maxI n ns := by
  have key : ∀ (ns : List Int) (n : Int), (maxI n ns ∈ n :: ns) ∧ ∀ y ∈ n :: ns, y ≤ maxI n ns := by
    intro ns
    induction ns with
    | nil => intro n; simp [maxI]
    | cons x r ih =>
      intro n
      have h := ih (if n < x then x else n)
      have e : maxI n (x :: r) = maxI (if n < x then x else n) r := rfl
      rw [e]
      refine ⟨?_, fun y hy => ?_⟩
      · rcases List.mem_cons.mp h.1 with q | q
        · rw [q]; split <;> simp
        · exact List.mem_cons_of_mem _ (List.mem_cons_of_mem _ q)
      · have h0 := h.2 _ (List.mem_cons_self ..)
        rcases List.mem_cons.mp hy with rfl | hy
        · exact Int.le_trans (by split <;> omega) h0
        · rcases List.mem_cons.mp hy with rfl | hy
          · exact Int.le_trans (by split <;> omega) h0
          · exact h.2 y (List.mem_cons_of_mem _ hy)
  intro m hm hle
  have h := key ns n
  have h1 := h.2 m hm
  have h2 := hle _ h.1
  omega
theorem bi_min (hc : X.calm = true) : BiS X T (.builtin "min") .min := by
  intro pins s σ H vs us Q I r ⟨G, ds, r1, gd, rd, e, h⟩
  unfold biop at e
  split at e <;> first | (rename_i q; cases q; done) | (cases e; done) | skip
  rename_i xs _
  cases q : allInt xs with
  | none => rw [q] at e; cases e
  | some ns =>
    rw [q] at e
    cases ns with
    | nil => cases e
    | cons n ns =>
      cases e
      obtain ⟨v, e1, hd⟩ := rd.one
      subst e1
      obtain ⟨a, ws, e4, ha, r2⟩ := red_lst gd.sub hd
      subst e4
      rw [ints_of q r2] at ha
      refine cr_min hc pins s σ H _ us Q I r ⟨a, n :: ns, rfl, .of ha, by simp, fun m h1 h2 => ?_⟩
      rw [minI_is n ns m h1 h2]
      exact h.imm gd rep_int
theorem bi_max (hc : X.calm = true) : BiS X T (.builtin "max") .max := by
  intro pins s σ H vs us Q I r ⟨G, ds, r1, gd, rd, e, h⟩
  unfold biop at e
  split at e <;> first | (rename_i q; cases q; done) | (cases e; done) | skip
  rename_i xs _
  cases q : allInt xs with
  | none => rw [q] at e; cases e
  | some ns =>
    rw [q] at e
    cases ns with
    | nil => cases e
    | cons n ns =>
      cases e
      obtain ⟨v, e1, hd⟩ := rd.one
      subst e1
      obtain ⟨a, ws, e4, ha, r2⟩ := red_lst gd.sub hd
      subst e4
      rw [ints_of q r2] at ha
      refine cr_max hc pins s σ H _ us Q I r ⟨a, n :: ns, rfl, .of ha, by simp, fun m h1 h2 => ?_⟩
      rw [maxI_is n ns m h1 h2]
      exact h.imm gd rep_int
end
end Kn

end

section
namespace Kn.L
open PySem PySem.Spec PyProof.Rows L2
/-! ### the core -/
/-- is_tracks(value) ['value', 'pair', 'one'] -/
def c_is_tracks : CF := ⟨3, 1, false, (.c (.iff (.or (.nt (.tr (.isi [.tuple] (.v 0)))) (.nt (.chn .le .le (.k (.int 1)) (.bi .len (.cons (.v 0) .nil)) (.k (.int 8)))))
  (.c (.ret (.k (.bl false)))
  .e)
  .e)
  (.c (.for_ (.n 1) (.ex (.v 0))
  (.c (.iff (.or (.nt (.tr (.isi [.tuple] (.v 1)))) (.cmp .ne (.bi .len (.cons (.v 1) .nil)) (.k (.int 2))))
  (.c (.ret (.k (.bl false)))
  .e)
  .e)
  (.c (.iff (.nt (.tr (.gen true [] 2 (.v 1) (.and (.isi [.int] (.v 2)) (.and (.nt (.isi [.bool] (.v 2))) (.chn .le .le (.k (.int 1)) (.v 2) (.k (.int 1000))))))))
  (.c (.ret (.k (.bl false)))
  .e)
  .e)
  .e)))
  (.c (.ret (.k (.bl true)))
  .e)))⟩
/-- row_in(track, row) ['track', 'row', 'first', 'many'] -/
def c_row_in : CF := ⟨4, 2, false, (.c (.ust (.t [(.n 2), (.n 3)]) (.v 0))
  (.c (.ret (.ite (.cmp .lt (.v 1) (.v 2)) (.k .non) (.bin .add (.bin .mod (.bin .sub (.v 1) (.v 2)) (.v 3)) (.k (.int 1)))))
  .e))⟩
/-- rows_in(tracks, row) ['tracks', 'row', 'track'] -/
def c_rows_in : CF := ⟨3, 2, false, (.c (.ret (.lc [2] (.n 2) (.ex (.v 0)) .no (.call 1 (.cons (.v 2) (.cons (.v 1) .nil)))))
  .e)⟩
/-- next_at(track, place, row) ['track', 'place', 'row', 'first', 'many', 'start'] -/
def c_next_at : CF := ⟨6, 3, false, (.c (.ust (.t [(.n 3), (.n 4)]) (.v 0))
  (.c (.iff (.nt (.chn .le .le (.k (.int 1)) (.v 1) (.v 4)))
  (.c (.rai 0 .no)
  .e)
  .e)
  (.c (.set 5 (.bi .max2 (.cons (.v 2) (.cons (.v 3) .nil))))
  (.c (.ret (.bin .add (.v 5) (.bin .mod (.bin .sub (.bin .sub (.v 1) (.k (.int 1))) (.bin .sub (.v 5) (.v 3))) (.v 4))))
  .e))))⟩
/-- common(numbers) ['numbers', 'found', 'number', 'a', 'b'] -/
def c_common : CF := ⟨5, 1, false, (.c (.set 1 (.k (.int 1)))
  (.c (.for_ (.n 2) (.ex (.v 0))
  (.c (.par [3, 4] (.cons (.v 1) (.cons (.v 2) .nil)))
  (.c (.whl (.tr (.v 4))
  (.c (.par [3, 4] (.cons (.v 4) (.cons (.bin .mod (.v 3) (.v 4)) .nil)))
  .e))
  (.c (.set 1 (.bin .fdiv (.bin .mul (.v 1) (.v 2)) (.v 3)))
  .e))))
  (.c (.ret (.v 1))
  .e)))⟩
/-- comes_again(tracks) ['tracks', '_', 'many'] -/
def c_comes_again : CF := ⟨3, 1, false, (.c (.ret (.call 4 (.cons (.lc [1, 2] (.t [(.n 1), (.n 2)]) (.ex (.v 0)) .no (.v 2)) .nil)))
  .e)⟩
/-- _law_draws(cell, modulus, count) ['cell', 'modulus', 'count', 'number', 'row', 'k', 'mixed'] -/
def c__law_draws : CF := ⟨7, 3, false, (.c (.set 3 (.v 0))
  (.c (.iff (.cmp .lt (.v 3) (.k (.int 0)))
  (.c (.set 3 (.bin .sub (.bin .sub (.k (.int 0)) (.k (.int 1))) (.v 3)))
  .e)
  .e)
  (.c (.set 4 (.lst .nil))
  (.c (.iff (.cmp .ge (.v 3) (.bin .pow (.k (.int 10)) (.k (.int 18))))
  (.c (.for_ (.n 5) (.r1 (.v 2))
  (.c (.app 4 (.bin .mod (.bi .int (.cons (.v 3) .nil)) (.v 1)))
  (.c (.set 3 (.bin .fdiv (.v 3) (.v 1)))
  .e)))
  (.c (.ret (.v 4))
  .e))
  .e)
  (.c (.for_ (.n 5) (.r1 (.v 2))
  (.c (.set 6 (.bin .mod (.bi .int (.cons (.bin .mul (.bin .add (.bin .add (.v 3) (.bin .mul (.k (.int 7)) (.v 5))) (.k (.int 1))) (.k (.int 48271))) .nil)) (.k (.int 2147483647))))
  (.c (.set 6 (.bin .mod (.bi .int (.cons (.bin .add (.bin .mul (.v 6) (.k (.int 69621))) (.bin .mul (.k (.int 31)) (.v 5))) .nil)) (.k (.int 2147483629))))
  (.c (.app 4 (.bin .mod (.bi .int (.cons (.bin .fdiv (.v 6) (.k (.int 7))) .nil)) (.v 1)))
  .e))))
  (.c (.ret (.v 4))
  .e))))))⟩
/-- _law_box(script) ['script', 'row', 'cell'] -/
def c__law_box : CF := ⟨3, 1, false, (.c (.set 1 (.lst .nil))
  (.c (.for_ (.n 2) (.ex (.v 0))
  (.c (.set 1 (.bin .add (.v 1) (.call 6 (.cons (.v 2) (.cons (.k (.int 1000003)) (.cons (.k (.int 6)) .nil))))))
  .e))
  (.c (.iff (.cmp .eq (.bi .len (.cons (.v 1) .nil)) (.k (.int 0)))
  (.c (.set 1 (.lst (.cons (.k (.int 11)) (.cons (.k (.int 5)) (.cons (.k (.int 2)) (.cons (.k (.int 7)) (.cons (.k (.int 31)) (.cons (.k (.int 101)) (.cons (.k (.int 997)) .nil)))))))))
  .e)
  .e)
  (.c (.ret (.dic (.cons (.k (.str [114, 111, 119])) (.v 1) (.cons (.k (.str [97, 116])) (.k (.int 0)) .nil))))
  .e))))⟩
/-- _law_next(box, modulus) ['box', 'modulus', 'at', 'number'] -/
def c__law_next : CF := ⟨4, 2, true, (.c (.set 2 (.ix (.v 0) (.k (.str [97, 116]))))
  (.c (.sti 0 (.k (.str [97, 116])) (.bin .add (.v 2) (.k (.int 1))))
  (.c (.set 3 (.ix (.ix (.v 0) (.k (.str [114, 111, 119]))) (.bin .mod (.v 2) (.bi .len (.cons (.ix (.v 0) (.k (.str [114, 111, 119]))) .nil)))))
  (.c (.ret (.bin .mod (.bi .int (.cons (.bin .add (.v 3) (.bin .mul (.k (.int 7919)) (.bin .fdiv (.v 2) (.bi .len (.cons (.ix (.v 0) (.k (.str [114, 111, 119]))) .nil))))) .nil)) (.v 1)))
  .e))))⟩
/-- _law_is(got, due) ['got', 'due', 'same', 'k'] -/
def c__law_is : CF := ⟨4, 2, false, (.c (.iff (.tr (.isi [.list, .tuple] (.v 1)))
  (.c (.set 2 (.ite (.tr (.isi [.list] (.v 1))) (.isi [.list] (.v 0)) (.isi [.tuple] (.v 0))))
  (.c (.ret (.and (.v 2) (.and (.cmp .eq (.bi .len (.cons (.v 0) .nil)) (.bi .len (.cons (.v 1) .nil))) (.bi .all (.cons (.lc [3] (.n 3) (.r1 (.bi .len (.cons (.v 1) .nil))) .no (.call 9 (.cons (.ix (.v 0) (.v 3)) (.cons (.ix (.v 1) (.v 3)) .nil)))) .nil)))))
  .e))
  .e)
  (.c (.iff (.tr (.isi [.dict] (.v 1)))
  (.c (.ret (.and (.isi [.dict] (.v 0)) (.call 9 (.cons .un (.cons .un .nil)))))
  .e)
  .e)
  (.c (.iff (.isl false .non (.v 1))
  (.c (.ret (.isl false .non (.v 0)))
  .e)
  .e)
  (.c (.iff (.tr (.isi [.bool] (.v 1)))
  (.c (.ret (.and (.isi [.bool] (.v 0)) (.cmp .eq (.v 0) (.v 1))))
  .e)
  .e)
  (.c (.iff (.tr (.isi [.int] (.v 1)))
  (.c (.ret (.and (.isi [.int] (.v 0)) (.and (.nt (.isi [.bool] (.v 0))) (.cmp .eq (.v 0) (.v 1)))))
  .e)
  .e)
  (.c (.ret (.and (.isi [.str] (.v 0)) (.cmp .eq (.v 0) (.v 1))))
  .e))))))⟩
/-- _law_told(action) ['action'] -/
def c__law_told : CF := ⟨1, 1, false, .e⟩
/-- _law_divisor(a, b) ['a', 'b'] -/
def c__law_divisor : CF := ⟨2, 2, false, (.c (.whl (.cmp .gt (.v 1) (.k (.int 0)))
  (.c (.par [0, 1] (.cons (.v 1) (.cons (.bin .sub (.v 0) (.bin .mul (.bin .fdiv (.v 0) (.v 1)) (.v 1))) .nil)))
  .e))
  (.c (.ret (.v 0))
  .e))⟩
/-- law(script) ['script', 'box', 'tracks', 'k', 'lists', 'first', 'many', 'row', 'due', 'j', 'track', 'start', 'place', 'told', 'far', 'whole', 'numbers', 'late', 'pair', 'wrong', 'value'] -/
def c_law : CF := ⟨21, 1, false, (.c (.set 1 (.call 7 (.cons (.v 0) .nil)))
  (.c (.set 2 (.bi .tuple (.cons (.lc [3] (.n 3) (.r1 (.bin .add (.k (.int 1)) (.cio 8 1 (.cons (.k (.int 8)) .nil)))) .no (.tup (.cons (.bin .add (.k (.int 1)) (.cio 8 1 (.cons (.k (.int 30)) .nil))) (.cons (.bin .add (.k (.int 1)) (.cio 8 1 (.cons (.k (.int 30)) .nil))) .nil)))) .nil)))
  (.c (.iff (.isl true (.bl true) (.call 0 (.cons (.v 2) .nil)))
  (.c (.ret (.k (.bl false)))
  .e)
  .e)
  (.c (.set 4 (.lst .nil))
  (.c (.for_ (.t [(.n 5), (.n 6)]) (.ex (.v 2))
  (.c (.app 4 (.bin .add (.bin .mul (.lst (.cons (.k .non) .nil)) (.v 5)) (.bin .mul (.lc [3] (.n 3) (.r1 (.v 6)) .no (.bin .add (.v 3) (.k (.int 1)))) (.k (.int 6)))))
  .e))
  (.c (.for_ (.n 7) (.r2 (.k (.int 1)) (.k (.int 101)))
  (.c (.set 8 (.lst .nil))
  (.c (.for_ (.n 9) (.r1 (.bi .len (.cons (.v 2) .nil)))
  (.c (.ust (.t [(.n 5), (.n 6)]) (.ix (.v 2) (.v 9)))
  (.c (.app 8 (.ite (.cmp .lt (.v 7) (.v 5)) (.k .non) (.bin .add (.bin .sub (.bin .sub (.v 7) (.v 5)) (.bin .mul (.bin .fdiv (.bin .sub (.v 7) (.v 5)) (.v 6)) (.v 6))) (.k (.int 1)))))
  (.c (.iff (.and (.cmp .lt (.v 7) (.bi .len (.cons (.ix (.v 4) (.v 9)) .nil))) (.cmp .ne (.ix (.ix (.v 4) (.v 9)) (.v 7)) (.ix (.v 8) (.neg (.k (.int 1))))))
  (.c (.ret (.k (.bl false)))
  .e)
  .e)
  (.c (.iff (.nt (.tr (.call 9 (.cons (.call 1 (.cons (.ix (.v 2) (.v 9)) (.cons (.v 7) .nil))) (.cons (.ix (.v 8) (.neg (.k (.int 1)))) .nil)))))
  (.c (.ret (.k (.bl false)))
  .e)
  .e)
  .e)))))
  (.c (.iff (.nt (.tr (.call 9 (.cons (.call 2 (.cons (.v 2) (.cons (.v 7) .nil))) (.cons (.v 8) .nil)))))
  (.c (.ret (.k (.bl false)))
  .e)
  .e)
  .e))))
  (.c (.for_ (.n 10) (.ex (.v 2))
  (.c (.ust (.t [(.n 5), (.n 6)]) (.v 10))
  (.c (.set 11 (.bin .add (.k (.int 1)) (.cio 8 1 (.cons (.k (.int 80)) .nil))))
  (.c (.for_ (.n 12) (.r2 (.k (.int 0)) (.bin .add (.v 6) (.k (.int 2))))
  (.c (.set 13 (.told 0 [10, 11, 12] (.call 3 (.cons (.v 10) (.cons (.v 12) (.cons (.v 11) .nil))))))
  (.c (.iff (.nt (.chn .le .le (.k (.int 1)) (.v 12) (.v 6)))
  (.c (.iff (.cmp .ne (.v 13) (.tup (.cons (.k (.str [33])) (.cons (.k (.str [110, 111, 110, 101])) .nil))))
  (.c (.ret (.k (.bl false)))
  .e)
  .e)
  (.c .cont
  .e))
  .e)
  (.c (.set 8 (.ix (.lc [7] (.n 7) (.r2 (.bi .max2 (.cons (.v 11) (.cons (.v 5) .nil))) (.bin .add (.bi .max2 (.cons (.v 11) (.cons (.v 5) .nil))) (.v 6))) (.so (.cmp .eq (.bin .mul (.bin .fdiv (.bin .add (.bin .sub (.bin .sub (.v 7) (.v 5)) (.v 12)) (.k (.int 1))) (.v 6)) (.v 6)) (.bin .add (.bin .sub (.bin .sub (.v 7) (.v 5)) (.v 12)) (.k (.int 1))))) (.v 7)) (.k (.int 0))))
  (.c (.iff (.or (.nt (.tr (.call 9 (.cons (.v 13) (.cons (.v 8) .nil))))) (.cmp .ne (.call 1 (.cons (.v 10) (.cons (.v 13) .nil))) (.v 12)))
  (.c (.ret (.k (.bl false)))
  .e)
  .e)
  .e)))))
  (.c (.set 14 (.bin .add (.k (.int 1000)) (.cio 8 1 (.cons (.k (.int 99999)) .nil))))
  (.c (.iff (.nt (.tr (.call 9 (.cons (.call 1 (.cons (.v 10) (.cons (.v 14) .nil))) (.cons (.bin .add (.bin .sub (.bin .sub (.v 14) (.v 5)) (.bin .mul (.bin .fdiv (.bin .sub (.v 14) (.v 5)) (.v 6)) (.v 6))) (.k (.int 1))) .nil)))))
  (.c (.ret (.k (.bl false)))
  .e)
  .e)
  .e))))))
  (.c (.set 15 (.k (.int 1)))
  (.c (.for_ (.t [(.n 5), (.n 6)]) (.ex (.v 2))
  (.c (.set 15 (.bin .fdiv (.bin .mul (.v 15) (.v 6)) (.call 11 (.cons (.v 15) (.cons (.v 6) .nil)))))
  .e))
  (.c (.set 16 (.lc [10] (.n 10) (.ex (.v 2)) .no (.ix (.v 10) (.k (.int 1)))))
  (.c (.iff (.or (.nt (.tr (.call 9 (.cons (.call 4 (.cons (.bi .list (.cons (.v 16) .nil)) .nil)) (.cons (.v 15) .nil))))) (.or (.nt (.tr (.call 9 (.cons (.call 5 (.cons (.v 2) .nil)) (.cons (.v 15) .nil))))) (.nt (.tr (.call 9 (.cons (.call 4 (.cons (.lst .nil) .nil)) (.cons (.k (.int 1)) .nil)))))))
  (.c (.ret (.k (.bl false)))
  .e)
  .e)
  (.c (.set 17 (.bin .add (.bi .max (.cons (.lc [10] (.n 10) (.ex (.v 2)) .no (.ix (.v 10) (.k (.int 0)))) .nil)) (.cio 8 1 (.cons (.k (.int 50)) .nil))))
  (.c (.iff (.cmp .ne (.call 2 (.cons (.v 2) (.cons (.v 17) .nil))) (.call 2 (.cons (.v 2) (.cons (.bin .add (.v 17) (.v 15)) .nil))))
  (.c (.ret (.k (.bl false)))
  .e)
  .e)
  (.c (.set 18 (.tup (.cons (.k (.int 1)) (.cons (.k (.int 1000)) .nil))))
  (.c (.set 19 (.lst (.cons (.tup .nil) (.cons (.tup (.cons (.tup (.cons (.k (.int 0)) (.cons (.k (.int 1)) .nil))) .nil)) (.cons (.tup (.cons (.tup (.cons (.k (.int 1)) (.cons (.k (.int 0)) .nil))) .nil)) (.cons (.tup (.cons (.tup (.cons (.k (.int 1001)) (.cons (.k (.int 1)) .nil))) .nil)) (.cons (.tup (.cons (.tup (.cons (.k (.int 1)) (.cons (.k (.int 1001)) .nil))) .nil)) (.cons (.tup (.cons (.tup (.cons (.k (.bl true)) (.cons (.k (.int 1)) .nil))) .nil)) (.cons (.tup (.cons (.tup (.cons (.k (.int 1)) (.cons (.k (.str [49])) .nil))) .nil)) (.cons (.tup (.cons (.tup (.cons (.k (.int 1)) .nil)) .nil)) (.cons (.tup (.cons (.tup (.cons (.k (.int 1)) (.cons (.k (.int 1)) (.cons (.k (.int 1)) .nil)))) .nil)) (.cons (.tup (.cons (.lst (.cons (.k (.int 1)) (.cons (.k (.int 1)) .nil))) .nil)) (.cons (.lst (.cons (.v 18) .nil)) (.cons (.bin .mul (.tup (.cons (.v 18) .nil)) (.k (.int 9))) (.cons (.k .non) (.cons (.v 18) (.cons (.tup (.cons (.v 18) (.cons (.k .non) .nil))) .nil)))))))))))))))))
  (.c (.ret (.and (.isl false (.bl true) (.call 0 (.cons (.bin .mul (.tup (.cons (.v 18) .nil)) (.k (.int 8))) .nil))) (.and (.isl false (.bl true) (.call 0 (.cons (.tup (.cons (.tup (.cons (.k (.int 1000)) (.cons (.k (.int 1)) .nil))) .nil)) .nil))) (.bi .all (.cons (.lc [20] (.n 20) (.ex (.v 19)) .no (.isl false (.bl false) (.call 0 (.cons (.v 20) .nil)))) .nil)))))
  .e))))))))))))))))⟩
def GD : Nat → D
  | _ => .non
def defs : List CF := [c_is_tracks, c_row_in, c_rows_in, c_next_at, c_common, c_comes_again, c__law_draws, c__law_box, c__law_next, c__law_is, c__law_told, c__law_divisor, c_law]
/-! ### the text -/
abbrev RW : PySem.W.OpenLaw := PySem.Challenge.rw_knittold_k70_tracks_row_by_row
def top (i : Nat) : Stmt := PySem.Challenge.pw_knittold_k70_tracks_row_by_row.main.body.getD i (.Pass ⟨0, 0, 0, 0⟩)
abbrev s_is_tracks : Stmt := top 4
abbrev s_row_in : Stmt := top 5
abbrev s_rows_in : Stmt := top 6
abbrev s_next_at : Stmt := top 7
abbrev s_common : Stmt := top 8
abbrev s_comes_again : Stmt := top 9
abbrev s__law_draws : Stmt := top 11
abbrev s__law_box : Stmt := top 12
abbrev s__law_next : Stmt := top 13
abbrev s__law_is : Stmt := top 14
abbrev s__law_told : Stmt := top 15
abbrev s__law_divisor : Stmt := top 16
abbrev s_law : Stmt := top 17
theorem sc_is_tracks : FnScope ["value", "pair", "one"] ["value"] (defScope s_is_tracks) := ⟨rfl, rfl, rfl, by decide +kernel, rfl, by decide +kernel, by decide +kernel⟩
theorem k_is_tracks_pair : (defScope s_is_tracks).names.lookup ("pair" : PySem.Str) = some .local := by decide +kernel
theorem k_is_tracks_value : (defScope s_is_tracks).names.lookup ("value" : PySem.Str) = some .local := by decide +kernel
theorem g_is_tracks_all : (defScope s_is_tracks).names.lookup ("all" : PySem.Str) = some .globalImplicit := by decide +kernel
theorem g_is_tracks_isinstance : (defScope s_is_tracks).names.lookup ("isinstance" : PySem.Str) = some .globalImplicit := by decide +kernel
theorem g_is_tracks_len : (defScope s_is_tracks).names.lookup ("len" : PySem.Str) = some .globalImplicit := by decide +kernel
theorem g_is_tracks_tuple : (defScope s_is_tracks).names.lookup ("tuple" : PySem.Str) = some .globalImplicit := by decide +kernel
theorem sc_row_in : FnScope ["track", "row", "first", "many"] ["track", "row"] (defScope s_row_in) := ⟨rfl, rfl, rfl, by decide +kernel, rfl, by decide +kernel, by decide +kernel⟩
theorem k_row_in_first : (defScope s_row_in).names.lookup ("first" : PySem.Str) = some .local := by decide +kernel
theorem k_row_in_many : (defScope s_row_in).names.lookup ("many" : PySem.Str) = some .local := by decide +kernel
theorem k_row_in_row : (defScope s_row_in).names.lookup ("row" : PySem.Str) = some .local := by decide +kernel
theorem k_row_in_track : (defScope s_row_in).names.lookup ("track" : PySem.Str) = some .local := by decide +kernel
theorem sc_rows_in : FnScope ["tracks", "row", "track"] ["tracks", "row"] (defScope s_rows_in) := ⟨rfl, rfl, rfl, by decide +kernel, rfl, by decide +kernel, by decide +kernel⟩
theorem k_rows_in_tracks : (defScope s_rows_in).names.lookup ("tracks" : PySem.Str) = some .local := by decide +kernel
theorem sc_next_at : FnScope ["track", "place", "row", "first", "many", "start"] ["track", "place", "row"] (defScope s_next_at) := ⟨rfl, rfl, rfl, by decide +kernel, rfl, by decide +kernel, by decide +kernel⟩
theorem k_next_at_first : (defScope s_next_at).names.lookup ("first" : PySem.Str) = some .local := by decide +kernel
theorem k_next_at_many : (defScope s_next_at).names.lookup ("many" : PySem.Str) = some .local := by decide +kernel
theorem k_next_at_place : (defScope s_next_at).names.lookup ("place" : PySem.Str) = some .local := by decide +kernel
theorem k_next_at_row : (defScope s_next_at).names.lookup ("row" : PySem.Str) = some .local := by decide +kernel
theorem k_next_at_start : (defScope s_next_at).names.lookup ("start" : PySem.Str) = some .local := by decide +kernel
theorem k_next_at_track : (defScope s_next_at).names.lookup ("track" : PySem.Str) = some .local := by decide +kernel
theorem g_next_at_NoSuchThing : (defScope s_next_at).names.lookup ("NoSuchThing" : PySem.Str) = some .globalImplicit := by decide +kernel
theorem g_next_at_max : (defScope s_next_at).names.lookup ("max" : PySem.Str) = some .globalImplicit := by decide +kernel
theorem sc_common : FnScope ["numbers", "found", "number", "a", "b"] ["numbers"] (defScope s_common) := ⟨rfl, rfl, rfl, by decide +kernel, rfl, by decide +kernel, by decide +kernel⟩
theorem k_common_a : (defScope s_common).names.lookup ("a" : PySem.Str) = some .local := by decide +kernel
theorem k_common_b : (defScope s_common).names.lookup ("b" : PySem.Str) = some .local := by decide +kernel
theorem k_common_found : (defScope s_common).names.lookup ("found" : PySem.Str) = some .local := by decide +kernel
theorem k_common_number : (defScope s_common).names.lookup ("number" : PySem.Str) = some .local := by decide +kernel
theorem k_common_numbers : (defScope s_common).names.lookup ("numbers" : PySem.Str) = some .local := by decide +kernel
theorem sc_comes_again : FnScope ["tracks", "_", "many"] ["tracks"] (defScope s_comes_again) := ⟨rfl, rfl, rfl, by decide +kernel, rfl, by decide +kernel, by decide +kernel⟩
theorem k_comes_again_tracks : (defScope s_comes_again).names.lookup ("tracks" : PySem.Str) = some .local := by decide +kernel
theorem g_comes_again_common : (defScope s_comes_again).names.lookup ("common" : PySem.Str) = some .globalImplicit := by decide +kernel
theorem sc__law_draws : FnScope ["cell", "modulus", "count", "number", "row", "k", "mixed"] ["cell", "modulus", "count"] (defScope s__law_draws) := ⟨rfl, rfl, rfl, by decide +kernel, rfl, by decide +kernel, by decide +kernel⟩
theorem k__law_draws_cell : (defScope s__law_draws).names.lookup ("cell" : PySem.Str) = some .local := by decide +kernel
theorem k__law_draws_count : (defScope s__law_draws).names.lookup ("count" : PySem.Str) = some .local := by decide +kernel
theorem k__law_draws_k : (defScope s__law_draws).names.lookup ("k" : PySem.Str) = some .local := by decide +kernel
theorem k__law_draws_mixed : (defScope s__law_draws).names.lookup ("mixed" : PySem.Str) = some .local := by decide +kernel
theorem k__law_draws_modulus : (defScope s__law_draws).names.lookup ("modulus" : PySem.Str) = some .local := by decide +kernel
theorem k__law_draws_number : (defScope s__law_draws).names.lookup ("number" : PySem.Str) = some .local := by decide +kernel
theorem k__law_draws_row : (defScope s__law_draws).names.lookup ("row" : PySem.Str) = some .local := by decide +kernel
theorem g__law_draws_int : (defScope s__law_draws).names.lookup ("int" : PySem.Str) = some .globalImplicit := by decide +kernel
theorem g__law_draws_range : (defScope s__law_draws).names.lookup ("range" : PySem.Str) = some .globalImplicit := by decide +kernel
theorem sc__law_box : FnScope ["script", "row", "cell"] ["script"] (defScope s__law_box) := ⟨rfl, rfl, rfl, by decide +kernel, rfl, by decide +kernel, by decide +kernel⟩
theorem k__law_box_cell : (defScope s__law_box).names.lookup ("cell" : PySem.Str) = some .local := by decide +kernel
theorem k__law_box_row : (defScope s__law_box).names.lookup ("row" : PySem.Str) = some .local := by decide +kernel
theorem k__law_box_script : (defScope s__law_box).names.lookup ("script" : PySem.Str) = some .local := by decide +kernel
theorem g__law_box__law_draws : (defScope s__law_box).names.lookup ("_law_draws" : PySem.Str) = some .globalImplicit := by decide +kernel
theorem g__law_box_len : (defScope s__law_box).names.lookup ("len" : PySem.Str) = some .globalImplicit := by decide +kernel
theorem sc__law_next : FnScope ["box", "modulus", "at", "number"] ["box", "modulus"] (defScope s__law_next) := ⟨rfl, rfl, rfl, by decide +kernel, rfl, by decide +kernel, by decide +kernel⟩
theorem k__law_next_at : (defScope s__law_next).names.lookup ("at" : PySem.Str) = some .local := by decide +kernel
theorem k__law_next_box : (defScope s__law_next).names.lookup ("box" : PySem.Str) = some .local := by decide +kernel
theorem k__law_next_modulus : (defScope s__law_next).names.lookup ("modulus" : PySem.Str) = some .local := by decide +kernel
theorem k__law_next_number : (defScope s__law_next).names.lookup ("number" : PySem.Str) = some .local := by decide +kernel
theorem g__law_next_int : (defScope s__law_next).names.lookup ("int" : PySem.Str) = some .globalImplicit := by decide +kernel
theorem g__law_next_len : (defScope s__law_next).names.lookup ("len" : PySem.Str) = some .globalImplicit := by decide +kernel
theorem sc__law_is : FnScope ["got", "due", "same", "k"] ["got", "due"] (defScope s__law_is) := ⟨rfl, rfl, rfl, by decide +kernel, rfl, by decide +kernel, by decide +kernel⟩
theorem k__law_is_due : (defScope s__law_is).names.lookup ("due" : PySem.Str) = some .cell := by decide +kernel
theorem k__law_is_got : (defScope s__law_is).names.lookup ("got" : PySem.Str) = some .cell := by decide +kernel
theorem k__law_is_same : (defScope s__law_is).names.lookup ("same" : PySem.Str) = some .local := by decide +kernel
theorem g__law_is__law_is : (defScope s__law_is).names.lookup ("_law_is" : PySem.Str) = some .globalImplicit := by decide +kernel
theorem g__law_is_all : (defScope s__law_is).names.lookup ("all" : PySem.Str) = some .globalImplicit := by decide +kernel
theorem g__law_is_bool : (defScope s__law_is).names.lookup ("bool" : PySem.Str) = some .globalImplicit := by decide +kernel
theorem g__law_is_dict : (defScope s__law_is).names.lookup ("dict" : PySem.Str) = some .globalImplicit := by decide +kernel
theorem g__law_is_int : (defScope s__law_is).names.lookup ("int" : PySem.Str) = some .globalImplicit := by decide +kernel
theorem g__law_is_isinstance : (defScope s__law_is).names.lookup ("isinstance" : PySem.Str) = some .globalImplicit := by decide +kernel
theorem g__law_is_len : (defScope s__law_is).names.lookup ("len" : PySem.Str) = some .globalImplicit := by decide +kernel
theorem g__law_is_list : (defScope s__law_is).names.lookup ("list" : PySem.Str) = some .globalImplicit := by decide +kernel
theorem g__law_is_range : (defScope s__law_is).names.lookup ("range" : PySem.Str) = some .globalImplicit := by decide +kernel
theorem g__law_is_str : (defScope s__law_is).names.lookup ("str" : PySem.Str) = some .globalImplicit := by decide +kernel
theorem g__law_is_tuple : (defScope s__law_is).names.lookup ("tuple" : PySem.Str) = some .globalImplicit := by decide +kernel
theorem sc__law_told : FnScope ["action"] ["action"] (defScope s__law_told) := ⟨rfl, rfl, rfl, by decide +kernel, rfl, by decide +kernel, by decide +kernel⟩
theorem sc__law_divisor : FnScope ["a", "b"] ["a", "b"] (defScope s__law_divisor) := ⟨rfl, rfl, rfl, by decide +kernel, rfl, by decide +kernel, by decide +kernel⟩
theorem k__law_divisor_a : (defScope s__law_divisor).names.lookup ("a" : PySem.Str) = some .local := by decide +kernel
theorem k__law_divisor_b : (defScope s__law_divisor).names.lookup ("b" : PySem.Str) = some .local := by decide +kernel
theorem sc_law : FnScope ["script", "box", "tracks", "k", "lists", "first", "many", "row", "due", "j", "track", "start", "place", "told", "far", "whole", "numbers", "late", "pair", "wrong", "value"] ["script"] (defScope s_law) := ⟨rfl, rfl, rfl, by decide +kernel, rfl, by decide +kernel, by decide +kernel⟩
theorem k_law_box : (defScope s_law).names.lookup ("box" : PySem.Str) = some .cell := by decide +kernel
theorem k_law_due : (defScope s_law).names.lookup ("due" : PySem.Str) = some .local := by decide +kernel
theorem k_law_far : (defScope s_law).names.lookup ("far" : PySem.Str) = some .local := by decide +kernel
theorem k_law_first : (defScope s_law).names.lookup ("first" : PySem.Str) = some .cell := by decide +kernel
theorem k_law_j : (defScope s_law).names.lookup ("j" : PySem.Str) = some .local := by decide +kernel
theorem k_law_late : (defScope s_law).names.lookup ("late" : PySem.Str) = some .local := by decide +kernel
theorem k_law_lists : (defScope s_law).names.lookup ("lists" : PySem.Str) = some .local := by decide +kernel
theorem k_law_many : (defScope s_law).names.lookup ("many" : PySem.Str) = some .cell := by decide +kernel
theorem k_law_numbers : (defScope s_law).names.lookup ("numbers" : PySem.Str) = some .local := by decide +kernel
theorem k_law_pair : (defScope s_law).names.lookup ("pair" : PySem.Str) = some .local := by decide +kernel
theorem k_law_place : (defScope s_law).names.lookup ("place" : PySem.Str) = some .cell := by decide +kernel
theorem k_law_row : (defScope s_law).names.lookup ("row" : PySem.Str) = some .local := by decide +kernel
theorem k_law_script : (defScope s_law).names.lookup ("script" : PySem.Str) = some .local := by decide +kernel
theorem k_law_start : (defScope s_law).names.lookup ("start" : PySem.Str) = some .cell := by decide +kernel
theorem k_law_told : (defScope s_law).names.lookup ("told" : PySem.Str) = some .local := by decide +kernel
theorem k_law_track : (defScope s_law).names.lookup ("track" : PySem.Str) = some .cell := by decide +kernel
theorem k_law_tracks : (defScope s_law).names.lookup ("tracks" : PySem.Str) = some .local := by decide +kernel
theorem k_law_whole : (defScope s_law).names.lookup ("whole" : PySem.Str) = some .local := by decide +kernel
theorem k_law_wrong : (defScope s_law).names.lookup ("wrong" : PySem.Str) = some .local := by decide +kernel
theorem g_law__law_box : (defScope s_law).names.lookup ("_law_box" : PySem.Str) = some .globalImplicit := by decide +kernel
theorem g_law__law_divisor : (defScope s_law).names.lookup ("_law_divisor" : PySem.Str) = some .globalImplicit := by decide +kernel
theorem g_law__law_is : (defScope s_law).names.lookup ("_law_is" : PySem.Str) = some .globalImplicit := by decide +kernel
theorem g_law__law_next : (defScope s_law).names.lookup ("_law_next" : PySem.Str) = some .globalImplicit := by decide +kernel
theorem g_law__law_told : (defScope s_law).names.lookup ("_law_told" : PySem.Str) = some .globalImplicit := by decide +kernel
theorem g_law_all : (defScope s_law).names.lookup ("all" : PySem.Str) = some .globalImplicit := by decide +kernel
theorem g_law_comes_again : (defScope s_law).names.lookup ("comes_again" : PySem.Str) = some .globalImplicit := by decide +kernel
theorem g_law_common : (defScope s_law).names.lookup ("common" : PySem.Str) = some .globalImplicit := by decide +kernel
theorem g_law_is_tracks : (defScope s_law).names.lookup ("is_tracks" : PySem.Str) = some .globalImplicit := by decide +kernel
theorem g_law_len : (defScope s_law).names.lookup ("len" : PySem.Str) = some .globalImplicit := by decide +kernel
theorem g_law_list : (defScope s_law).names.lookup ("list" : PySem.Str) = some .globalImplicit := by decide +kernel
theorem g_law_max : (defScope s_law).names.lookup ("max" : PySem.Str) = some .globalImplicit := by decide +kernel
theorem g_law_range : (defScope s_law).names.lookup ("range" : PySem.Str) = some .globalImplicit := by decide +kernel
theorem g_law_row_in : (defScope s_law).names.lookup ("row_in" : PySem.Str) = some .globalImplicit := by decide +kernel
theorem g_law_rows_in : (defScope s_law).names.lookup ("rows_in" : PySem.Str) = some .globalImplicit := by decide +kernel
theorem g_law_tuple : (defScope s_law).names.lookup ("tuple" : PySem.Str) = some .globalImplicit := by decide +kernel
/-! ### what the head tells -/
def tfq : List (He.Defn × PySem.Str) := [(("is_tracks", none), (envOfC "is_tracks" (defScope s_is_tracks) 0 0 .none).qual ++ "<genexpr>"), (("law", none), (envOfC "law" (defScope s_law) 0 0 .none).qual ++ "<lambda>")]
def tf : List He.Defn := tfq.map (·.1)
structure Env0K (K : PySem.W.Frag) (mg : PySem.Str → Option Value) : Prop where
  fr_all : mg "all" = none
  fr_bool : mg "bool" = none
  fr_dict : mg "dict" = none
  fr_int : mg "int" = none
  fr_isinstance : mg "isinstance" = none
  fr_len : mg "len" = none
  fr_list : mg "list" = none
  fr_max : mg "max" = none
  fr_range : mg "range" = none
  fr_str : mg "str" = none
  fr_tuple : mg "tuple" = none
  gx_KnittoldError : mg "KnittoldError" = some (.ref (He.ga K "KnittoldError"))
  x_KnittoldError : PySem.W.excIn K (He.ga K "KnittoldError") He.veBase "ValueError.__new__" = true ∧ PySem.W.keepIn K (.ref (He.ga K "KnittoldError")) = true ∧ PySem.W.subIn K (.ref (He.ga K "KnittoldError")) (.type "BaseException") = some true ∧ PySem.W.typeIn K (.ref (He.ga K "KnittoldError")) = some (.type "type")
  gx_NoSuchThing : mg "NoSuchThing" = some (.ref (He.ga K "NoSuchThing"))
  x_NoSuchThing : PySem.W.excIn K (He.ga K "NoSuchThing") He.veBase "ValueError.__new__" = true ∧ PySem.W.keepIn K (.ref (He.ga K "NoSuchThing")) = true ∧ PySem.W.subIn K (.ref (He.ga K "NoSuchThing")) (.type "BaseException") = some true ∧ PySem.W.typeIn K (.ref (He.ga K "NoSuchThing")) = some (.type "type")
  em : PySem.W.exmOne K (.ref (He.ga K "NoSuchThing")) (.ref (He.ga K "NoSuchThing")) = some true
  nt : (tf.map fun p => (He.cT K p).2).Nodup
  d_is_tracks : mg "is_tracks" = some (.ref (He.ga K "is_tracks")) ∧ ∃ fd, FunD K "is_tracks" "is_tracks" (defArgs s_is_tracks) (defBody s_is_tracks) (defScope s_is_tracks) [] [] (He.ga K "is_tracks") fd
  d_row_in : mg "row_in" = some (.ref (He.ga K "row_in")) ∧ ∃ fd, FunD K "row_in" "row_in" (defArgs s_row_in) (defBody s_row_in) (defScope s_row_in) [] [] (He.ga K "row_in") fd
  d_rows_in : mg "rows_in" = some (.ref (He.ga K "rows_in")) ∧ ∃ fd, FunD K "rows_in" "rows_in" (defArgs s_rows_in) (defBody s_rows_in) (defScope s_rows_in) [] [] (He.ga K "rows_in") fd
  d_next_at : mg "next_at" = some (.ref (He.ga K "next_at")) ∧ ∃ fd, FunD K "next_at" "next_at" (defArgs s_next_at) (defBody s_next_at) (defScope s_next_at) [] [] (He.ga K "next_at") fd
  d_common : mg "common" = some (.ref (He.ga K "common")) ∧ ∃ fd, FunD K "common" "common" (defArgs s_common) (defBody s_common) (defScope s_common) [] [] (He.ga K "common") fd
  d_comes_again : mg "comes_again" = some (.ref (He.ga K "comes_again")) ∧ ∃ fd, FunD K "comes_again" "comes_again" (defArgs s_comes_again) (defBody s_comes_again) (defScope s_comes_again) [] [] (He.ga K "comes_again") fd
  d__law_draws : mg "_law_draws" = some (.ref (He.ga K "_law_draws")) ∧ ∃ fd, FunD K "_law_draws" "_law_draws" (defArgs s__law_draws) (defBody s__law_draws) (defScope s__law_draws) [] [] (He.ga K "_law_draws") fd
  d__law_box : mg "_law_box" = some (.ref (He.ga K "_law_box")) ∧ ∃ fd, FunD K "_law_box" "_law_box" (defArgs s__law_box) (defBody s__law_box) (defScope s__law_box) [] [] (He.ga K "_law_box") fd
  d__law_next : mg "_law_next" = some (.ref (He.ga K "_law_next")) ∧ ∃ fd, FunD K "_law_next" "_law_next" (defArgs s__law_next) (defBody s__law_next) (defScope s__law_next) [] [] (He.ga K "_law_next") fd
  d__law_is : mg "_law_is" = some (.ref (He.ga K "_law_is")) ∧ ∃ fd, FunD K "_law_is" "_law_is" (defArgs s__law_is) (defBody s__law_is) (defScope s__law_is) [] [] (He.ga K "_law_is") fd
  d__law_told : mg "_law_told" = some (.ref (He.ga K "_law_told")) ∧ ∃ fd, FunD K "_law_told" "_law_told" (defArgs s__law_told) (defBody s__law_told) (defScope s__law_told) [] [] (He.ga K "_law_told") fd
  d__law_divisor : mg "_law_divisor" = some (.ref (He.ga K "_law_divisor")) ∧ ∃ fd, FunD K "_law_divisor" "_law_divisor" (defArgs s__law_divisor) (defBody s__law_divisor) (defScope s__law_divisor) [] [] (He.ga K "_law_divisor") fd
  d_law : mg "law" = some (.ref (He.ga K "law")) ∧ ∃ fd, FunD K "law" "law" (defArgs s_law) (defBody s_law) (defScope s_law) [] [] (He.ga K "law") fd
def pm (K : PySem.W.Frag) : Pm := ⟨K, tfq.map fun p => ((He.cT K p.1).2, p.2), fun c p cls _ _ => c = 0 ∧ p = .non ∧ cls = .ref (He.ga K "NoSuchThing")⟩
structure Tab (prog : Program) (w : World) (K : PySem.W.Frag) (mg : PySem.Str → Option Value) (base : Heap) (l : Nat) : Prop where
  is_tracks : FnAt prog w K mg base (pm K) (8 * l) "is_tracks" false (run GD defs l 0)
  row_in : FnAt prog w K mg base (pm K) (8 * l) "row_in" false (run GD defs l 1)
  rows_in : FnAt prog w K mg base (pm K) (8 * l) "rows_in" false (run GD defs l 2)
  next_at : FnAt prog w K mg base (pm K) (8 * l) "next_at" false (run GD defs l 3)
  common : FnAt prog w K mg base (pm K) (8 * l) "common" false (run GD defs l 4)
  comes_again : FnAt prog w K mg base (pm K) (8 * l) "comes_again" false (run GD defs l 5)
  _law_draws : FnAt prog w K mg base (pm K) (8 * l) "_law_draws" false (run GD defs l 6)
  _law_box : FnAt prog w K mg base (pm K) (8 * l) "_law_box" false (run GD defs l 7)
  _law_next : FnAt prog w K mg base (pm K) (8 * l) "_law_next" true (run GD defs l 8)
  _law_is : FnAt prog w K mg base (pm K) (8 * l) "_law_is" false (run GD defs l 9)
  _law_divisor : FnAt prog w K mg base (pm K) (8 * l) "_law_divisor" false (run GD defs l 11)
  law : FnAt prog w K mg base (pm K) (8 * l) "law" false (run GD defs l 12)
theorem room_hu {k : Nat} {A : Around} (r : Room k A) : A.units + 65 < cLine := by have := r.un; omega
section
variable {prog : Program} {w : World} {K : PySem.W.Frag} {mg : PySem.Str → Option Value} {base : Heap}
theorem told0 (e : Env0K K mg) : Told0 K mg s__law_told (He.ga K "NoSuchThing") := by
  obtain ⟨m, fd, FD⟩ := e.d__law_told
  exact ⟨⟨_, fd, m, FD, FD.bindsN fun _ _ _ _ _ _ us hl => match us, hl with | [_], _ => rfl⟩, e.gx_NoSuchThing⟩
theorem ok_is_tracks (e : Env0K K mg) (TBs : ∀ p ∈ tf.map (He.cT K), LamX.TabB base mg p.1 p.2) {l : Nat} (tab : Tab prog w K mg base l) {fd : FuncData} (FD : FunD K "is_tracks" "is_tracks" (defArgs s_is_tracks) (defBody s_is_tracks) (defScope s_is_tracks) [] [] (He.ga K "is_tracks") fd) : FnOk prog w K mg base (L2.CX prog w) (8 * l + 7 + 1) (He.ga K "is_tracks") fd ["value"] (spF (pm K) false (run GD defs (l + 1) 0)) := by
  obtain ⟨fr_all, fr_bool, fr_dict, fr_int, fr_isinstance, fr_len, fr_list, fr_max, fr_range, fr_str, fr_tuple, gx_KnittoldError, x_KnittoldError, gx_NoSuchThing, x_NoSuchThing, em, nt, d_is_tracks, d_row_in, d_rows_in, d_next_at, d_common, d_comes_again, d__law_draws, d__law_box, d__law_next, d__law_is, d__law_told, d__law_divisor, d_law⟩ := e
  refine fn_ok (cf := c_is_tracks) FD sc_is_tracks rfl rfl (by decide) fun cdv A outer s H E hr hcd => ?_
  have hu := room_hu hr
  have hr0 := hr.mono (j := 8 * l) (by omega)
  have hx : Passes (L2.CX prog w) (cxOf (L2.CX prog w) prog w K mg base ["value", "pair", "one"] "is_tracks" (defScope s_is_tracks) (He.ga K "is_tracks") cdv A outer s H E) E := hx_body rfl rfl rfl rfl
  have hp : PassesOwn (model prog w) (cxOf (L2.CX prog w) prog w K mg base ["value", "pair", "one"] "is_tracks" (defScope s_is_tracks) (He.ga K "is_tracks") cdv A outer s H E).A (cxOf (L2.CX prog w) prog w K mg base ["value", "pair", "one"] "is_tracks" (defScope s_is_tracks) (He.ga K "is_tracks") cdv A outer s H E).env (cxOf (L2.CX prog w) prog w K mg base ["value", "pair", "one"] "is_tracks" (defScope s_is_tracks) (He.ga K "is_tracks") cdv A outer s H E).xe := passes_of rfl
  have nd : (["value", "pair", "one"] : List PySem.Str).Nodup := sc_is_tracks.nd
  have hX_NoSuchThing : ∀ H, (pm K).XC 0 .non (.ref (He.ga K "NoSuchThing")) none H := fun _ => ⟨rfl, rfl, rfl⟩
  have hcodeg : ∀ p : He.Defn, He.fAd K p = He.ga K "is_tracks" → cdv = .ref (He.codeOf K p) := hcd
  have hmTg : ((He.cT K ("is_tracks", none)).2, (envOfC "is_tracks" (defScope s_is_tracks) 0 0 .none).qual ++ "<genexpr>") ∈ (pm K).T := List.mem_map.mpr ⟨(("is_tracks", none), (envOfC "is_tracks" (defScope s_is_tracks) 0 0 .none).qual ++ "<genexpr>"), (.head _), rfl⟩
  have hug : ∀ q ∈ (pm K).T, q.1 = (He.cT K ("is_tracks", none)).2 → q.2 = (envOfC "is_tracks" (defScope s_is_tracks) 0 0 .none).qual ++ "<genexpr>" := uniq_of (p := ((He.cT K ("is_tracks", none)).2, (envOfC "is_tracks" (defScope s_is_tracks) 0 0 .none).qual ++ "<genexpr>")) (by have h := nt; simpa [pm, tf, tfq] using h) hmTg
  have TBg : LamX.TabB base mg (He.cT K ("is_tracks", none)).1 (He.cT K ("is_tracks", none)).2 := TBs _ (List.mem_map.mpr ⟨("is_tracks", none), List.mem_map.mpr ⟨(("is_tracks", none), (envOfC "is_tracks" (defScope s_is_tracks) 0 0 .none).qual ++ "<genexpr>"), (.head _), rfl⟩, rfl⟩)
  exact (ks_cons (ks_if (PW.pt (kb_or (kb_nt (kb_tr rfl (ke_isi1 (t := .tuple) rfl g_is_tracks_isinstance fr_isinstance bo_isinstance (ke_v rfl (Or.inl k_is_tracks_value)) (pe_ty g_is_tracks_tuple fr_tuple bo_tuple)) (fun _ => rfl))) (kb_or1 (kb_nt (kb_chn (o := .le) (p := .le) rfl hu ke_int (ke_bi (f := .len) rfl (bi_len rfl) g_is_tracks_len fr_len bo_len (ka_R (ke_v rfl (Or.inl k_is_tracks_value)) ka_R0)) ke_int)))))
  (ks_cons (ks_ret ke_bl)
  ks_nil)
  ks_nil)
  (ks_cons (ks_for hp rfl (ki_ex rfl (ke_v rfl (Or.inl k_is_tracks_value))) (kg_n nd rfl (Or.inl k_is_tracks_pair))
  (ks_cons (ks_if (PW.pt (kb_or (kb_nt (kb_tr rfl (ke_isi1 (t := .tuple) rfl g_is_tracks_isinstance fr_isinstance bo_isinstance (ke_v rfl (Or.inl k_is_tracks_pair)) (pe_ty g_is_tracks_tuple fr_tuple bo_tuple)) (fun _ => rfl))) (kb_or1 (kb_cmp (o := .ne) rfl hu (ke_bi (f := .len) rfl (bi_len rfl) g_is_tracks_len fr_len bo_len (ka_R (ke_v rfl (Or.inl k_is_tracks_pair)) ka_R0)) ke_int (nomark _)))))
  (ks_cons (ks_ret ke_bl)
  ks_nil)
  ks_nil)
  (ks_cons (ks_if (kb_nt (kb_tr rfl (ke_all (fv := []) rfl g_is_tracks_all fr_all hr0 TBg (hcodeg _ rfl) hmTg hug (genSc_by rfl) (ke_v rfl (Or.inl k_is_tracks_pair)) (fun W hWl hWo => have hi0 : 2 < W.length := Nat.lt_of_lt_of_le (by decide : 2 < 3) (Nat.le_of_eq hWl.symm); (q_and (q_isi (t := .int) (by decide +kernel) fr_isinstance bo_isinstance (by decide +kernel) fr_int bo_int hi0) (q_and (q_nt (q_isi (t := .bool) (by decide +kernel) fr_isinstance bo_isinstance (by decide +kernel) fr_bool bo_bool hi0)) (q_one (q_chn (o := .le) (o' := .le) rfl rfl q_int (q_x hi0) q_int)))))) (fun _ => rfl)))
  (ks_cons (ks_ret ke_bl)
  ks_nil)
  ks_nil)
  ks_nil)))
  (ks_cons (ks_ret ke_bl)
  ks_nil)))
theorem ok_row_in (e : Env0K K mg) {l : Nat} (tab : Tab prog w K mg base l) {fd : FuncData} (FD : FunD K "row_in" "row_in" (defArgs s_row_in) (defBody s_row_in) (defScope s_row_in) [] [] (He.ga K "row_in") fd) : FnOk prog w K mg base (L2.CX prog w) (8 * l + 7 + 1) (He.ga K "row_in") fd ["track", "row"] (spF (pm K) false (run GD defs (l + 1) 1)) := by
  obtain ⟨fr_all, fr_bool, fr_dict, fr_int, fr_isinstance, fr_len, fr_list, fr_max, fr_range, fr_str, fr_tuple, gx_KnittoldError, x_KnittoldError, gx_NoSuchThing, x_NoSuchThing, em, nt, d_is_tracks, d_row_in, d_rows_in, d_next_at, d_common, d_comes_again, d__law_draws, d__law_box, d__law_next, d__law_is, d__law_told, d__law_divisor, d_law⟩ := e
  refine fn_ok (cf := c_row_in) FD sc_row_in rfl rfl (by decide) fun cdv A outer s H E hr hcd => ?_
  have hu := room_hu hr
  have hr0 := hr.mono (j := 8 * l) (by omega)
  have hx : Passes (L2.CX prog w) (cxOf (L2.CX prog w) prog w K mg base ["track", "row", "first", "many"] "row_in" (defScope s_row_in) (He.ga K "row_in") cdv A outer s H E) E := hx_body rfl rfl rfl rfl
  have hp : PassesOwn (model prog w) (cxOf (L2.CX prog w) prog w K mg base ["track", "row", "first", "many"] "row_in" (defScope s_row_in) (He.ga K "row_in") cdv A outer s H E).A (cxOf (L2.CX prog w) prog w K mg base ["track", "row", "first", "many"] "row_in" (defScope s_row_in) (He.ga K "row_in") cdv A outer s H E).env (cxOf (L2.CX prog w) prog w K mg base ["track", "row", "first", "many"] "row_in" (defScope s_row_in) (He.ga K "row_in") cdv A outer s H E).xe := passes_of rfl
  have nd : (["track", "row", "first", "many"] : List PySem.Str).Nodup := sc_row_in.nd
  have hX_NoSuchThing : ∀ H, (pm K).XC 0 .non (.ref (He.ga K "NoSuchThing")) none H := fun _ => ⟨rfl, rfl, rfl⟩
  exact (ks_cons (ks_ust (ke_v rfl (Or.inl k_row_in_track)) (kg_t rfl rfl (kgs_cons (kg_n nd rfl (Or.inl k_row_in_first)) (kgs_cons (kg_n nd rfl (Or.inl k_row_in_many)) kgs_nil))))
  (ks_cons (ks_ret (ke_ite (kb_cmp (o := .lt) rfl hu (ke_v rfl (Or.inl k_row_in_row)) (ke_v rfl (Or.inl k_row_in_first)) (nomark _)) ke_non (ke_bin (o := .add) rfl (ke_bin (o := .mod) rfl (ke_bin (o := .sub) rfl (ke_v rfl (Or.inl k_row_in_row)) (ke_v rfl (Or.inl k_row_in_first))) (ke_v rfl (Or.inl k_row_in_many))) ke_int)))
  ks_nil))
theorem ok_rows_in (e : Env0K K mg) {l : Nat} (tab : Tab prog w K mg base l) {fd : FuncData} (FD : FunD K "rows_in" "rows_in" (defArgs s_rows_in) (defBody s_rows_in) (defScope s_rows_in) [] [] (He.ga K "rows_in") fd) : FnOk prog w K mg base (L2.CX prog w) (8 * l + 7 + 1) (He.ga K "rows_in") fd ["tracks", "row"] (spF (pm K) false (run GD defs (l + 1) 2)) := by
  obtain ⟨fr_all, fr_bool, fr_dict, fr_int, fr_isinstance, fr_len, fr_list, fr_max, fr_range, fr_str, fr_tuple, gx_KnittoldError, x_KnittoldError, gx_NoSuchThing, x_NoSuchThing, em, nt, d_is_tracks, d_row_in, d_rows_in, d_next_at, d_common, d_comes_again, d__law_draws, d__law_box, d__law_next, d__law_is, d__law_told, d__law_divisor, d_law⟩ := e
  refine fn_ok (cf := c_rows_in) FD sc_rows_in rfl rfl (by decide) fun cdv A outer s H E hr hcd => ?_
  have hu := room_hu hr
  have hr0 := hr.mono (j := 8 * l) (by omega)
  have hx : Passes (L2.CX prog w) (cxOf (L2.CX prog w) prog w K mg base ["tracks", "row", "track"] "rows_in" (defScope s_rows_in) (He.ga K "rows_in") cdv A outer s H E) E := hx_body rfl rfl rfl rfl
  have hp : PassesOwn (model prog w) (cxOf (L2.CX prog w) prog w K mg base ["tracks", "row", "track"] "rows_in" (defScope s_rows_in) (He.ga K "rows_in") cdv A outer s H E).A (cxOf (L2.CX prog w) prog w K mg base ["tracks", "row", "track"] "rows_in" (defScope s_rows_in) (He.ga K "rows_in") cdv A outer s H E).env (cxOf (L2.CX prog w) prog w K mg base ["tracks", "row", "track"] "rows_in" (defScope s_rows_in) (He.ga K "rows_in") cdv A outer s H E).xe := passes_of rfl
  have nd : (["tracks", "row", "track"] : List PySem.Str).Nodup := sc_rows_in.nd
  have hX_NoSuchThing : ∀ H, (pm K).XC 0 .non (.ref (He.ga K "NoSuchThing")) none H := fun _ => ⟨rfl, rfl, rfl⟩
  exact (ks_cons (ks_ret (ke_lc rfl nd (ki_ex rfl (ke_v rfl (Or.inl k_rows_in_tracks))) (blkOk_by (own := [("track", 2)]) rfl) (fun _ _ _ _ _ => (kg_n nd rfl (Or.inl rfl))) (fun _ _ _ _ _ => kts_no) (fun _ _ _ _ _ => (ke_call (tab.row_in) hr0 passL rfl (ka_F (ke_v rfl (Or.inl rfl)) (ka_F (ke_v rfl (Or.inr (Or.inl rfl))) ka_F0))))))
  ks_nil)
theorem ok_next_at (e : Env0K K mg) {l : Nat} (tab : Tab prog w K mg base l) {fd : FuncData} (FD : FunD K "next_at" "next_at" (defArgs s_next_at) (defBody s_next_at) (defScope s_next_at) [] [] (He.ga K "next_at") fd) : FnOk prog w K mg base (L2.CX prog w) (8 * l + 7 + 1) (He.ga K "next_at") fd ["track", "place", "row"] (spF (pm K) false (run GD defs (l + 1) 3)) := by
  obtain ⟨fr_all, fr_bool, fr_dict, fr_int, fr_isinstance, fr_len, fr_list, fr_max, fr_range, fr_str, fr_tuple, gx_KnittoldError, x_KnittoldError, gx_NoSuchThing, x_NoSuchThing, em, nt, d_is_tracks, d_row_in, d_rows_in, d_next_at, d_common, d_comes_again, d__law_draws, d__law_box, d__law_next, d__law_is, d__law_told, d__law_divisor, d_law⟩ := e
  refine fn_ok (cf := c_next_at) FD sc_next_at rfl rfl (by decide) fun cdv A outer s H E hr hcd => ?_
  have hu := room_hu hr
  have hr0 := hr.mono (j := 8 * l) (by omega)
  have hx : Passes (L2.CX prog w) (cxOf (L2.CX prog w) prog w K mg base ["track", "place", "row", "first", "many", "start"] "next_at" (defScope s_next_at) (He.ga K "next_at") cdv A outer s H E) E := hx_body rfl rfl rfl rfl
  have hp : PassesOwn (model prog w) (cxOf (L2.CX prog w) prog w K mg base ["track", "place", "row", "first", "many", "start"] "next_at" (defScope s_next_at) (He.ga K "next_at") cdv A outer s H E).A (cxOf (L2.CX prog w) prog w K mg base ["track", "place", "row", "first", "many", "start"] "next_at" (defScope s_next_at) (He.ga K "next_at") cdv A outer s H E).env (cxOf (L2.CX prog w) prog w K mg base ["track", "place", "row", "first", "many", "start"] "next_at" (defScope s_next_at) (He.ga K "next_at") cdv A outer s H E).xe := passes_of rfl
  have nd : (["track", "place", "row", "first", "many", "start"] : List PySem.Str).Nodup := sc_next_at.nd
  have hX_NoSuchThing : ∀ H, (pm K).XC 0 .non (.ref (He.ga K "NoSuchThing")) none H := fun _ => ⟨rfl, rfl, rfl⟩
  exact (ks_cons (ks_ust (ke_v rfl (Or.inl k_next_at_track)) (kg_t rfl rfl (kgs_cons (kg_n nd rfl (Or.inl k_next_at_first)) (kgs_cons (kg_n nd rfl (Or.inl k_next_at_many)) kgs_nil))))
  (ks_cons (ks_if (kb_nt (kb_chn (o := .le) (p := .le) rfl hu ke_int (ke_v rfl (Or.inl k_next_at_place)) (ke_v rfl (Or.inl k_next_at_many))))
  (ks_cons (ks_raise (k := 0) rfl (takes_of rfl rfl rfl rfl) PySem.F.excBase_ValueError x_NoSuchThing.1 gx_NoSuchThing x_NoSuchThing.2.1 (raises_own x_NoSuchThing.2.2.1 x_NoSuchThing.2.2.2) g_next_at_NoSuchThing hX_NoSuchThing)
  ks_nil)
  ks_nil)
  (ks_cons (ks_set nd rfl (Or.inl k_next_at_start) (ke_bi (f := .max2) rfl (bi_max2 rfl) g_next_at_max fr_max bo_max (ka_R (ke_v rfl (Or.inl k_next_at_row)) (ka_R (ke_v rfl (Or.inl k_next_at_first)) ka_R0))))
  (ks_cons (ks_ret (ke_bin (o := .add) rfl (ke_v rfl (Or.inl k_next_at_start)) (ke_bin (o := .mod) rfl (ke_bin (o := .sub) rfl (ke_bin (o := .sub) rfl (ke_v rfl (Or.inl k_next_at_place)) ke_int) (ke_bin (o := .sub) rfl (ke_v rfl (Or.inl k_next_at_start)) (ke_v rfl (Or.inl k_next_at_first)))) (ke_v rfl (Or.inl k_next_at_many)))))
  ks_nil))))
theorem ok_common (e : Env0K K mg) {l : Nat} (tab : Tab prog w K mg base l) {fd : FuncData} (FD : FunD K "common" "common" (defArgs s_common) (defBody s_common) (defScope s_common) [] [] (He.ga K "common") fd) : FnOk prog w K mg base (L2.CX prog w) (8 * l + 7 + 1) (He.ga K "common") fd ["numbers"] (spF (pm K) false (run GD defs (l + 1) 4)) := by
  obtain ⟨fr_all, fr_bool, fr_dict, fr_int, fr_isinstance, fr_len, fr_list, fr_max, fr_range, fr_str, fr_tuple, gx_KnittoldError, x_KnittoldError, gx_NoSuchThing, x_NoSuchThing, em, nt, d_is_tracks, d_row_in, d_rows_in, d_next_at, d_common, d_comes_again, d__law_draws, d__law_box, d__law_next, d__law_is, d__law_told, d__law_divisor, d_law⟩ := e
  refine fn_ok (cf := c_common) FD sc_common rfl rfl (by decide) fun cdv A outer s H E hr hcd => ?_
  have hu := room_hu hr
  have hr0 := hr.mono (j := 8 * l) (by omega)
  have hx : Passes (L2.CX prog w) (cxOf (L2.CX prog w) prog w K mg base ["numbers", "found", "number", "a", "b"] "common" (defScope s_common) (He.ga K "common") cdv A outer s H E) E := hx_body rfl rfl rfl rfl
  have hp : PassesOwn (model prog w) (cxOf (L2.CX prog w) prog w K mg base ["numbers", "found", "number", "a", "b"] "common" (defScope s_common) (He.ga K "common") cdv A outer s H E).A (cxOf (L2.CX prog w) prog w K mg base ["numbers", "found", "number", "a", "b"] "common" (defScope s_common) (He.ga K "common") cdv A outer s H E).env (cxOf (L2.CX prog w) prog w K mg base ["numbers", "found", "number", "a", "b"] "common" (defScope s_common) (He.ga K "common") cdv A outer s H E).xe := passes_of rfl
  have nd : (["numbers", "found", "number", "a", "b"] : List PySem.Str).Nodup := sc_common.nd
  have hX_NoSuchThing : ∀ H, (pm K).XC 0 .non (.ref (He.ga K "NoSuchThing")) none H := fun _ => ⟨rfl, rfl, rfl⟩
  exact (ks_cons (ks_set nd rfl (Or.inl k_common_found) ke_int)
  (ks_cons (ks_for hp rfl (ki_ex rfl (ke_v rfl (Or.inl k_common_numbers))) (kg_n nd rfl (Or.inl k_common_number))
  (ks_cons (ks_par2 rfl nd rfl rfl (by decide) k_common_a k_common_b (ka_L (ke_v rfl (Or.inl k_common_found)) (ka_L (ke_v rfl (Or.inl k_common_number)) ka_L0)) rfl)
  (ks_cons (ks_whl hp (kb_tr rfl (ke_v rfl (Or.inl k_common_b)) (fun _ => rfl))
  (ks_cons (ks_par2 rfl nd rfl rfl (by decide) k_common_a k_common_b (ka_L (ke_v rfl (Or.inl k_common_b)) (ka_L (ke_bin (o := .mod) rfl (ke_v rfl (Or.inl k_common_a)) (ke_v rfl (Or.inl k_common_b))) ka_L0)) rfl)
  ks_nil))
  (ks_cons (ks_set nd rfl (Or.inl k_common_found) (ke_bin (o := .fdiv) rfl (ke_bin (o := .mul) rfl (ke_v rfl (Or.inl k_common_found)) (ke_v rfl (Or.inl k_common_number))) (ke_v rfl (Or.inl k_common_a))))
  ks_nil))))
  (ks_cons (ks_ret (ke_v rfl (Or.inl k_common_found)))
  ks_nil)))
theorem ok_comes_again (e : Env0K K mg) {l : Nat} (tab : Tab prog w K mg base l) {fd : FuncData} (FD : FunD K "comes_again" "comes_again" (defArgs s_comes_again) (defBody s_comes_again) (defScope s_comes_again) [] [] (He.ga K "comes_again") fd) : FnOk prog w K mg base (L2.CX prog w) (8 * l + 7 + 1) (He.ga K "comes_again") fd ["tracks"] (spF (pm K) false (run GD defs (l + 1) 5)) := by
  obtain ⟨fr_all, fr_bool, fr_dict, fr_int, fr_isinstance, fr_len, fr_list, fr_max, fr_range, fr_str, fr_tuple, gx_KnittoldError, x_KnittoldError, gx_NoSuchThing, x_NoSuchThing, em, nt, d_is_tracks, d_row_in, d_rows_in, d_next_at, d_common, d_comes_again, d__law_draws, d__law_box, d__law_next, d__law_is, d__law_told, d__law_divisor, d_law⟩ := e
  refine fn_ok (cf := c_comes_again) FD sc_comes_again rfl rfl (by decide) fun cdv A outer s H E hr hcd => ?_
  have hu := room_hu hr
  have hr0 := hr.mono (j := 8 * l) (by omega)
  have hx : Passes (L2.CX prog w) (cxOf (L2.CX prog w) prog w K mg base ["tracks", "_", "many"] "comes_again" (defScope s_comes_again) (He.ga K "comes_again") cdv A outer s H E) E := hx_body rfl rfl rfl rfl
  have hp : PassesOwn (model prog w) (cxOf (L2.CX prog w) prog w K mg base ["tracks", "_", "many"] "comes_again" (defScope s_comes_again) (He.ga K "comes_again") cdv A outer s H E).A (cxOf (L2.CX prog w) prog w K mg base ["tracks", "_", "many"] "comes_again" (defScope s_comes_again) (He.ga K "comes_again") cdv A outer s H E).env (cxOf (L2.CX prog w) prog w K mg base ["tracks", "_", "many"] "comes_again" (defScope s_comes_again) (He.ga K "comes_again") cdv A outer s H E).xe := passes_of rfl
  have nd : (["tracks", "_", "many"] : List PySem.Str).Nodup := sc_comes_again.nd
  have hX_NoSuchThing : ∀ H, (pm K).XC 0 .non (.ref (He.ga K "NoSuchThing")) none H := fun _ => ⟨rfl, rfl, rfl⟩
  exact (ks_cons (ks_ret (ke_call (tab.common) hr0 hx g_comes_again_common (ka_F (ke_lc rfl nd (ki_ex rfl (ke_v rfl (Or.inl k_comes_again_tracks))) (blkOk_by (own := [("_", 1), ("many", 2)]) rfl) (fun _ _ _ _ _ => (kg_t rfl rfl (kgs_cons (kg_n nd rfl (Or.inl rfl)) (kgs_cons (kg_n nd rfl (Or.inl rfl)) kgs_nil)))) (fun _ _ _ _ _ => kts_no) (fun _ _ _ _ _ => (ke_v rfl (Or.inl rfl)))) ka_F0)))
  ks_nil)
theorem ok__law_draws (e : Env0K K mg) {l : Nat} (tab : Tab prog w K mg base l) {fd : FuncData} (FD : FunD K "_law_draws" "_law_draws" (defArgs s__law_draws) (defBody s__law_draws) (defScope s__law_draws) [] [] (He.ga K "_law_draws") fd) : FnOk prog w K mg base (L2.CX prog w) (8 * l + 7 + 1) (He.ga K "_law_draws") fd ["cell", "modulus", "count"] (spF (pm K) false (run GD defs (l + 1) 6)) := by
  obtain ⟨fr_all, fr_bool, fr_dict, fr_int, fr_isinstance, fr_len, fr_list, fr_max, fr_range, fr_str, fr_tuple, gx_KnittoldError, x_KnittoldError, gx_NoSuchThing, x_NoSuchThing, em, nt, d_is_tracks, d_row_in, d_rows_in, d_next_at, d_common, d_comes_again, d__law_draws, d__law_box, d__law_next, d__law_is, d__law_told, d__law_divisor, d_law⟩ := e
  refine fn_ok (cf := c__law_draws) FD sc__law_draws rfl rfl (by decide) fun cdv A outer s H E hr hcd => ?_
  have hu := room_hu hr
  have hr0 := hr.mono (j := 8 * l) (by omega)
  have hx : Passes (L2.CX prog w) (cxOf (L2.CX prog w) prog w K mg base ["cell", "modulus", "count", "number", "row", "k", "mixed"] "_law_draws" (defScope s__law_draws) (He.ga K "_law_draws") cdv A outer s H E) E := hx_body rfl rfl rfl rfl
  have hp : PassesOwn (model prog w) (cxOf (L2.CX prog w) prog w K mg base ["cell", "modulus", "count", "number", "row", "k", "mixed"] "_law_draws" (defScope s__law_draws) (He.ga K "_law_draws") cdv A outer s H E).A (cxOf (L2.CX prog w) prog w K mg base ["cell", "modulus", "count", "number", "row", "k", "mixed"] "_law_draws" (defScope s__law_draws) (He.ga K "_law_draws") cdv A outer s H E).env (cxOf (L2.CX prog w) prog w K mg base ["cell", "modulus", "count", "number", "row", "k", "mixed"] "_law_draws" (defScope s__law_draws) (He.ga K "_law_draws") cdv A outer s H E).xe := passes_of rfl
  have nd : (["cell", "modulus", "count", "number", "row", "k", "mixed"] : List PySem.Str).Nodup := sc__law_draws.nd
  have hX_NoSuchThing : ∀ H, (pm K).XC 0 .non (.ref (He.ga K "NoSuchThing")) none H := fun _ => ⟨rfl, rfl, rfl⟩
  exact (ks_cons (ks_set nd rfl (Or.inl k__law_draws_number) (ke_v rfl (Or.inl k__law_draws_cell)))
  (ks_cons (ks_if (kb_cmp (o := .lt) rfl hu (ke_v rfl (Or.inl k__law_draws_number)) ke_int (nomark _))
  (ks_cons (ks_set nd rfl (Or.inl k__law_draws_number) (ke_bin (o := .sub) rfl (ke_bin (o := .sub) rfl ke_int ke_int) (ke_v rfl (Or.inl k__law_draws_number))))
  ks_nil)
  ks_nil)
  (ks_cons (ks_set nd rfl (Or.inl k__law_draws_row) (ke_lst ka_F0))
  (ks_cons (ks_if (kb_cmp (o := .ge) rfl hu (ke_v rfl (Or.inl k__law_draws_number)) (ke_bin (o := .pow) rfl ke_int ke_int) (nomark _))
  (ks_cons (ks_for hp rfl (ki_r1 g__law_draws_range fr_range (ke_v rfl (Or.inl k__law_draws_count))) (kg_n nd rfl (Or.inl k__law_draws_k))
  (ks_cons (ks_app rfl rfl (Or.inl k__law_draws_row) (ke_bin (o := .mod) rfl (ke_ty (f := .int) rfl (bi_int) g__law_draws_int fr_int bo_int (ka_R (ke_v rfl (Or.inl k__law_draws_number)) ka_R0)) (ke_v rfl (Or.inl k__law_draws_modulus))))
  (ks_cons (ks_set nd rfl (Or.inl k__law_draws_number) (ke_bin (o := .fdiv) rfl (ke_v rfl (Or.inl k__law_draws_number)) (ke_v rfl (Or.inl k__law_draws_modulus))))
  ks_nil)))
  (ks_cons (ks_ret (ke_v rfl (Or.inl k__law_draws_row)))
  ks_nil))
  ks_nil)
  (ks_cons (ks_for hp rfl (ki_r1 g__law_draws_range fr_range (ke_v rfl (Or.inl k__law_draws_count))) (kg_n nd rfl (Or.inl k__law_draws_k))
  (ks_cons (ks_set nd rfl (Or.inl k__law_draws_mixed) (ke_bin (o := .mod) rfl (ke_ty (f := .int) rfl (bi_int) g__law_draws_int fr_int bo_int (ka_R (ke_bin (o := .mul) rfl (ke_bin (o := .add) rfl (ke_bin (o := .add) rfl (ke_v rfl (Or.inl k__law_draws_number)) (ke_bin (o := .mul) rfl ke_int (ke_v rfl (Or.inl k__law_draws_k)))) ke_int) ke_int) ka_R0)) ke_int))
  (ks_cons (ks_set nd rfl (Or.inl k__law_draws_mixed) (ke_bin (o := .mod) rfl (ke_ty (f := .int) rfl (bi_int) g__law_draws_int fr_int bo_int (ka_R (ke_bin (o := .add) rfl (ke_bin (o := .mul) rfl (ke_v rfl (Or.inl k__law_draws_mixed)) ke_int) (ke_bin (o := .mul) rfl ke_int (ke_v rfl (Or.inl k__law_draws_k)))) ka_R0)) ke_int))
  (ks_cons (ks_app rfl rfl (Or.inl k__law_draws_row) (ke_bin (o := .mod) rfl (ke_ty (f := .int) rfl (bi_int) g__law_draws_int fr_int bo_int (ka_R (ke_bin (o := .fdiv) rfl (ke_v rfl (Or.inl k__law_draws_mixed)) ke_int) ka_R0)) (ke_v rfl (Or.inl k__law_draws_modulus))))
  ks_nil))))
  (ks_cons (ks_ret (ke_v rfl (Or.inl k__law_draws_row)))
  ks_nil))))))
theorem ok__law_box (e : Env0K K mg) {l : Nat} (tab : Tab prog w K mg base l) {fd : FuncData} (FD : FunD K "_law_box" "_law_box" (defArgs s__law_box) (defBody s__law_box) (defScope s__law_box) [] [] (He.ga K "_law_box") fd) : FnOk prog w K mg base (L2.CX prog w) (8 * l + 7 + 1) (He.ga K "_law_box") fd ["script"] (spF (pm K) false (run GD defs (l + 1) 7)) := by
  obtain ⟨fr_all, fr_bool, fr_dict, fr_int, fr_isinstance, fr_len, fr_list, fr_max, fr_range, fr_str, fr_tuple, gx_KnittoldError, x_KnittoldError, gx_NoSuchThing, x_NoSuchThing, em, nt, d_is_tracks, d_row_in, d_rows_in, d_next_at, d_common, d_comes_again, d__law_draws, d__law_box, d__law_next, d__law_is, d__law_told, d__law_divisor, d_law⟩ := e
  refine fn_ok (cf := c__law_box) FD sc__law_box rfl rfl (by decide) fun cdv A outer s H E hr hcd => ?_
  have hu := room_hu hr
  have hr0 := hr.mono (j := 8 * l) (by omega)
  have hx : Passes (L2.CX prog w) (cxOf (L2.CX prog w) prog w K mg base ["script", "row", "cell"] "_law_box" (defScope s__law_box) (He.ga K "_law_box") cdv A outer s H E) E := hx_body rfl rfl rfl rfl
  have hp : PassesOwn (model prog w) (cxOf (L2.CX prog w) prog w K mg base ["script", "row", "cell"] "_law_box" (defScope s__law_box) (He.ga K "_law_box") cdv A outer s H E).A (cxOf (L2.CX prog w) prog w K mg base ["script", "row", "cell"] "_law_box" (defScope s__law_box) (He.ga K "_law_box") cdv A outer s H E).env (cxOf (L2.CX prog w) prog w K mg base ["script", "row", "cell"] "_law_box" (defScope s__law_box) (He.ga K "_law_box") cdv A outer s H E).xe := passes_of rfl
  have nd : (["script", "row", "cell"] : List PySem.Str).Nodup := sc__law_box.nd
  have hX_NoSuchThing : ∀ H, (pm K).XC 0 .non (.ref (He.ga K "NoSuchThing")) none H := fun _ => ⟨rfl, rfl, rfl⟩
  exact (ks_cons (ks_set nd rfl (Or.inl k__law_box_row) (ke_lst ka_F0))
  (ks_cons (ks_for hp rfl (ki_ex rfl (ke_v rfl (Or.inl k__law_box_script))) (kg_n nd rfl (Or.inl k__law_box_cell))
  (ks_cons (ks_set nd rfl (Or.inl k__law_box_row) (ke_bin (o := .add) rfl (ke_v rfl (Or.inl k__law_box_row)) (ke_call (tab._law_draws) hr0 hx g__law_box__law_draws (ka_F (ke_v rfl (Or.inl k__law_box_cell)) (ka_F ke_int (ka_F ke_int ka_F0))))))
  ks_nil))
  (ks_cons (ks_if (kb_cmp (o := .eq) rfl hu (ke_bi (f := .len) rfl (bi_len rfl) g__law_box_len fr_len bo_len (ka_R (ke_v rfl (Or.inl k__law_box_row)) ka_R0)) ke_int (nomark _))
  (ks_cons (ks_set nd rfl (Or.inl k__law_box_row) (ke_lst (ka_F ke_int (ka_F ke_int (ka_F ke_int (ka_F ke_int (ka_F ke_int (ka_F ke_int (ka_F ke_int ka_F0)))))))))
  ks_nil)
  ks_nil)
  (ks_cons (ks_ret (ke_dic (pps_cons (ke_str (by decide +kernel) (by decide +kernel)) (ke_v rfl (Or.inl k__law_box_row)) (pps_cons (ke_str (by decide +kernel) (by decide +kernel)) ke_int pps_nil))))
  ks_nil))))
theorem ok__law_next (e : Env0K K mg) {l : Nat} (tab : Tab prog w K mg base l) {fd : FuncData} (FD : FunD K "_law_next" "_law_next" (defArgs s__law_next) (defBody s__law_next) (defScope s__law_next) [] [] (He.ga K "_law_next") fd) : FnOk prog w K mg base (L2.CX prog w) (8 * l + 7 + 1) (He.ga K "_law_next") fd ["box", "modulus"] (spF (pm K) true (run GD defs (l + 1) 8)) := by
  obtain ⟨fr_all, fr_bool, fr_dict, fr_int, fr_isinstance, fr_len, fr_list, fr_max, fr_range, fr_str, fr_tuple, gx_KnittoldError, x_KnittoldError, gx_NoSuchThing, x_NoSuchThing, em, nt, d_is_tracks, d_row_in, d_rows_in, d_next_at, d_common, d_comes_again, d__law_draws, d__law_box, d__law_next, d__law_is, d__law_told, d__law_divisor, d_law⟩ := e
  refine fn_ok (cf := c__law_next) FD sc__law_next rfl rfl (by decide) fun cdv A outer s H E hr hcd => ?_
  have hu := room_hu hr
  have hr0 := hr.mono (j := 8 * l) (by omega)
  have hx : Passes (L2.CX prog w) (cxOf (L2.CX prog w) prog w K mg base ["box", "modulus", "at", "number"] "_law_next" (defScope s__law_next) (He.ga K "_law_next") cdv A outer s H E) E := hx_body rfl rfl rfl rfl
  have hp : PassesOwn (model prog w) (cxOf (L2.CX prog w) prog w K mg base ["box", "modulus", "at", "number"] "_law_next" (defScope s__law_next) (He.ga K "_law_next") cdv A outer s H E).A (cxOf (L2.CX prog w) prog w K mg base ["box", "modulus", "at", "number"] "_law_next" (defScope s__law_next) (He.ga K "_law_next") cdv A outer s H E).env (cxOf (L2.CX prog w) prog w K mg base ["box", "modulus", "at", "number"] "_law_next" (defScope s__law_next) (He.ga K "_law_next") cdv A outer s H E).xe := passes_of rfl
  have nd : (["box", "modulus", "at", "number"] : List PySem.Str).Nodup := sc__law_next.nd
  have hX_NoSuchThing : ∀ H, (pm K).XC 0 .non (.ref (He.ga K "NoSuchThing")) none H := fun _ => ⟨rfl, rfl, rfl⟩
  exact (ks_cons (ks_set nd rfl (Or.inl k__law_next_at) (ke_ix rfl hu (ke_v rfl (Or.inl k__law_next_box)) (ke_str (by decide +kernel) (by decide +kernel)) (fun _ _ => rfl)))
  (ks_cons (ks_sti rfl hu rfl (Or.inl k__law_next_box) (ke_bin (o := .add) rfl (ke_v rfl (Or.inl k__law_next_at)) ke_int) (ke_str (by decide +kernel) (by decide +kernel)))
  (ks_cons (ks_set nd rfl (Or.inl k__law_next_number) (ke_ix rfl hu (ke_ix rfl hu (ke_v rfl (Or.inl k__law_next_box)) (ke_str (by decide +kernel) (by decide +kernel)) (fun _ _ => rfl)) (ke_bin (o := .mod) rfl (ke_v rfl (Or.inl k__law_next_at)) (ke_bi (f := .len) rfl (bi_len rfl) g__law_next_len fr_len bo_len (ka_R (ke_ix rfl hu (ke_v rfl (Or.inl k__law_next_box)) (ke_str (by decide +kernel) (by decide +kernel)) (fun _ _ => rfl)) ka_R0))) (fun _ _ => rfl)))
  (ks_cons (ks_ret (ke_bin (o := .mod) rfl (ke_ty (f := .int) rfl (bi_int) g__law_next_int fr_int bo_int (ka_R (ke_bin (o := .add) rfl (ke_v rfl (Or.inl k__law_next_number)) (ke_bin (o := .mul) rfl ke_int (ke_bin (o := .fdiv) rfl (ke_v rfl (Or.inl k__law_next_at)) (ke_bi (f := .len) rfl (bi_len rfl) g__law_next_len fr_len bo_len (ka_R (ke_ix rfl hu (ke_v rfl (Or.inl k__law_next_box)) (ke_str (by decide +kernel) (by decide +kernel)) (fun _ _ => rfl)) ka_R0))))) ka_R0)) (ke_v rfl (Or.inl k__law_next_modulus))))
  ks_nil))))
theorem ok__law_is (e : Env0K K mg) {l : Nat} (tab : Tab prog w K mg base l) {fd : FuncData} (FD : FunD K "_law_is" "_law_is" (defArgs s__law_is) (defBody s__law_is) (defScope s__law_is) [] [] (He.ga K "_law_is") fd) : FnOk prog w K mg base (L2.CX prog w) (8 * l + 7 + 1) (He.ga K "_law_is") fd ["got", "due"] (spF (pm K) false (run GD defs (l + 1) 9)) := by
  obtain ⟨fr_all, fr_bool, fr_dict, fr_int, fr_isinstance, fr_len, fr_list, fr_max, fr_range, fr_str, fr_tuple, gx_KnittoldError, x_KnittoldError, gx_NoSuchThing, x_NoSuchThing, em, nt, d_is_tracks, d_row_in, d_rows_in, d_next_at, d_common, d_comes_again, d__law_draws, d__law_box, d__law_next, d__law_is, d__law_told, d__law_divisor, d_law⟩ := e
  refine fn_ok (cf := c__law_is) FD sc__law_is rfl rfl (by decide) fun cdv A outer s H E hr hcd => ?_
  have hu := room_hu hr
  have hr0 := hr.mono (j := 8 * l) (by omega)
  have hx : Passes (L2.CX prog w) (cxOf (L2.CX prog w) prog w K mg base ["got", "due", "same", "k"] "_law_is" (defScope s__law_is) (He.ga K "_law_is") cdv A outer s H E) E := hx_body rfl rfl rfl rfl
  have hp : PassesOwn (model prog w) (cxOf (L2.CX prog w) prog w K mg base ["got", "due", "same", "k"] "_law_is" (defScope s__law_is) (He.ga K "_law_is") cdv A outer s H E).A (cxOf (L2.CX prog w) prog w K mg base ["got", "due", "same", "k"] "_law_is" (defScope s__law_is) (He.ga K "_law_is") cdv A outer s H E).env (cxOf (L2.CX prog w) prog w K mg base ["got", "due", "same", "k"] "_law_is" (defScope s__law_is) (He.ga K "_law_is") cdv A outer s H E).xe := passes_of rfl
  have nd : (["got", "due", "same", "k"] : List PySem.Str).Nodup := sc__law_is.nd
  have hX_NoSuchThing : ∀ H, (pm K).XC 0 .non (.ref (He.ga K "NoSuchThing")) none H := fun _ => ⟨rfl, rfl, rfl⟩
  exact (ks_cons (ks_if (kb_tr rfl (ke_isi2 (t := .list) (u := .tuple) rfl g__law_is_isinstance fr_isinstance bo_isinstance (ke_v rfl (Or.inr (Or.inl k__law_is_due))) (pe_ty g__law_is_list fr_list bo_list) (pe_ty g__law_is_tuple fr_tuple bo_tuple)) (fun _ => rfl))
  (ks_cons (ks_set nd rfl (Or.inl k__law_is_same) (ke_ite (kb_tr rfl (ke_isi1 (t := .list) rfl g__law_is_isinstance fr_isinstance bo_isinstance (ke_v rfl (Or.inr (Or.inl k__law_is_due))) (pe_ty g__law_is_list fr_list bo_list)) (fun _ => rfl)) (ke_isi1 (t := .list) rfl g__law_is_isinstance fr_isinstance bo_isinstance (ke_v rfl (Or.inr (Or.inl k__law_is_got))) (pe_ty g__law_is_list fr_list bo_list)) (ke_isi1 (t := .tuple) rfl g__law_is_isinstance fr_isinstance bo_isinstance (ke_v rfl (Or.inr (Or.inl k__law_is_got))) (pe_ty g__law_is_tuple fr_tuple bo_tuple))))
  (ks_cons (ks_ret (ke_and (ke_v rfl (Or.inl k__law_is_same)) (ke_and (ke_cmp (o := .eq) rfl hu (ke_bi (f := .len) rfl (bi_len rfl) g__law_is_len fr_len bo_len (ka_R (ke_v rfl (Or.inr (Or.inl k__law_is_got))) ka_R0)) (ke_bi (f := .len) rfl (bi_len rfl) g__law_is_len fr_len bo_len (ka_R (ke_v rfl (Or.inr (Or.inl k__law_is_due))) ka_R0)) (nomark _)) (ke_one (ke_bi (f := .all) rfl (bi_all rfl) g__law_is_all fr_all bo_all (ka_R (ke_lc rfl nd (ki_r1 g__law_is_range fr_range (ke_bi (f := .len) rfl (bi_len rfl) g__law_is_len fr_len bo_len (ka_R (ke_v rfl (Or.inr (Or.inl k__law_is_due))) ka_R0))) (blkOk_by (own := [("k", 3)]) rfl) (fun _ _ _ _ _ => (kg_n nd rfl (Or.inl rfl))) (fun _ _ _ _ _ => kts_no) (fun _ _ _ _ _ => (ke_call (tab._law_is) hr0 passL rfl (ka_F (ke_ix rfl hu (ke_v rfl (Or.inr (Or.inl rfl))) (ke_v rfl (Or.inl rfl)) (fun _ _ => rfl)) (ka_F (ke_ix rfl hu (ke_v rfl (Or.inr (Or.inl rfl))) (ke_v rfl (Or.inl rfl)) (fun _ _ => rfl)) ka_F0))))) ka_R0))))))
  ks_nil))
  ks_nil)
  (ks_cons (ks_if (kb_tr rfl (ke_isi1 (t := .dict) rfl g__law_is_isinstance fr_isinstance bo_isinstance (ke_v rfl (Or.inr (Or.inl k__law_is_due))) (pe_ty g__law_is_dict fr_dict bo_dict)) (fun _ => rfl))
  (ks_cons (ks_ret (ke_and (ke_isi1 (t := .dict) rfl g__law_is_isinstance fr_isinstance bo_isinstance (ke_v rfl (Or.inr (Or.inl k__law_is_got))) (pe_ty g__law_is_dict fr_dict bo_dict)) (ke_one (ke_call (tab._law_is) hr0 hx g__law_is__law_is (ka_F ke_un (ka_F ke_un ka_F0))))))
  ks_nil)
  ks_nil)
  (ks_cons (ks_if (kb_isl (l := .non) rfl (ke_v rfl (Or.inr (Or.inl k__law_is_due))) pe_non)
  (ks_cons (ks_ret (ke_isl (l := .non) rfl (ke_v rfl (Or.inr (Or.inl k__law_is_got))) pe_non))
  ks_nil)
  ks_nil)
  (ks_cons (ks_if (kb_tr rfl (ke_isi1 (t := .bool) rfl g__law_is_isinstance fr_isinstance bo_isinstance (ke_v rfl (Or.inr (Or.inl k__law_is_due))) (pe_ty g__law_is_bool fr_bool bo_bool)) (fun _ => rfl))
  (ks_cons (ks_ret (ke_and (ke_isi1 (t := .bool) rfl g__law_is_isinstance fr_isinstance bo_isinstance (ke_v rfl (Or.inr (Or.inl k__law_is_got))) (pe_ty g__law_is_bool fr_bool bo_bool)) (ke_one (ke_cmp (o := .eq) rfl hu (ke_v rfl (Or.inr (Or.inl k__law_is_got))) (ke_v rfl (Or.inr (Or.inl k__law_is_due))) (nomark _)))))
  ks_nil)
  ks_nil)
  (ks_cons (ks_if (kb_tr rfl (ke_isi1 (t := .int) rfl g__law_is_isinstance fr_isinstance bo_isinstance (ke_v rfl (Or.inr (Or.inl k__law_is_due))) (pe_ty g__law_is_int fr_int bo_int)) (fun _ => rfl))
  (ks_cons (ks_ret (ke_and (ke_isi1 (t := .int) rfl g__law_is_isinstance fr_isinstance bo_isinstance (ke_v rfl (Or.inr (Or.inl k__law_is_got))) (pe_ty g__law_is_int fr_int bo_int)) (ke_and (ke_nt (ke_isi1 (t := .bool) rfl g__law_is_isinstance fr_isinstance bo_isinstance (ke_v rfl (Or.inr (Or.inl k__law_is_got))) (pe_ty g__law_is_bool fr_bool bo_bool))) (ke_one (ke_cmp (o := .eq) rfl hu (ke_v rfl (Or.inr (Or.inl k__law_is_got))) (ke_v rfl (Or.inr (Or.inl k__law_is_due))) (nomark _))))))
  ks_nil)
  ks_nil)
  (ks_cons (ks_ret (ke_and (ke_isi1 (t := .str) rfl g__law_is_isinstance fr_isinstance bo_isinstance (ke_v rfl (Or.inr (Or.inl k__law_is_got))) (pe_ty g__law_is_str fr_str bo_str)) (ke_one (ke_cmp (o := .eq) rfl hu (ke_v rfl (Or.inr (Or.inl k__law_is_got))) (ke_v rfl (Or.inr (Or.inl k__law_is_due))) (nomark _)))))
  ks_nil))))))
theorem ok__law_divisor (e : Env0K K mg) {l : Nat} (tab : Tab prog w K mg base l) {fd : FuncData} (FD : FunD K "_law_divisor" "_law_divisor" (defArgs s__law_divisor) (defBody s__law_divisor) (defScope s__law_divisor) [] [] (He.ga K "_law_divisor") fd) : FnOk prog w K mg base (L2.CX prog w) (8 * l + 7 + 1) (He.ga K "_law_divisor") fd ["a", "b"] (spF (pm K) false (run GD defs (l + 1) 11)) := by
  obtain ⟨fr_all, fr_bool, fr_dict, fr_int, fr_isinstance, fr_len, fr_list, fr_max, fr_range, fr_str, fr_tuple, gx_KnittoldError, x_KnittoldError, gx_NoSuchThing, x_NoSuchThing, em, nt, d_is_tracks, d_row_in, d_rows_in, d_next_at, d_common, d_comes_again, d__law_draws, d__law_box, d__law_next, d__law_is, d__law_told, d__law_divisor, d_law⟩ := e
  refine fn_ok (cf := c__law_divisor) FD sc__law_divisor rfl rfl (by decide) fun cdv A outer s H E hr hcd => ?_
  have hu := room_hu hr
  have hr0 := hr.mono (j := 8 * l) (by omega)
  have hx : Passes (L2.CX prog w) (cxOf (L2.CX prog w) prog w K mg base ["a", "b"] "_law_divisor" (defScope s__law_divisor) (He.ga K "_law_divisor") cdv A outer s H E) E := hx_body rfl rfl rfl rfl
  have hp : PassesOwn (model prog w) (cxOf (L2.CX prog w) prog w K mg base ["a", "b"] "_law_divisor" (defScope s__law_divisor) (He.ga K "_law_divisor") cdv A outer s H E).A (cxOf (L2.CX prog w) prog w K mg base ["a", "b"] "_law_divisor" (defScope s__law_divisor) (He.ga K "_law_divisor") cdv A outer s H E).env (cxOf (L2.CX prog w) prog w K mg base ["a", "b"] "_law_divisor" (defScope s__law_divisor) (He.ga K "_law_divisor") cdv A outer s H E).xe := passes_of rfl
  have nd : (["a", "b"] : List PySem.Str).Nodup := sc__law_divisor.nd
  have hX_NoSuchThing : ∀ H, (pm K).XC 0 .non (.ref (He.ga K "NoSuchThing")) none H := fun _ => ⟨rfl, rfl, rfl⟩
  exact (ks_cons (ks_whl hp (kb_cmp (o := .gt) rfl hu (ke_v rfl (Or.inl k__law_divisor_b)) ke_int (nomark _))
  (ks_cons (ks_par2 rfl nd rfl rfl (by decide) k__law_divisor_a k__law_divisor_b (ka_L (ke_v rfl (Or.inl k__law_divisor_b)) (ka_L (ke_bin (o := .sub) rfl (ke_v rfl (Or.inl k__law_divisor_a)) (ke_bin (o := .mul) rfl (ke_bin (o := .fdiv) rfl (ke_v rfl (Or.inl k__law_divisor_a)) (ke_v rfl (Or.inl k__law_divisor_b))) (ke_v rfl (Or.inl k__law_divisor_b)))) ka_L0)) rfl)
  ks_nil))
  (ks_cons (ks_ret (ke_v rfl (Or.inl k__law_divisor_a)))
  ks_nil))
theorem ok_law (e : Env0K K mg) (TBs : ∀ p ∈ tf.map (He.cT K), LamX.TabB base mg p.1 p.2) {l : Nat} (tab : Tab prog w K mg base l) {fd : FuncData} (FD : FunD K "law" "law" (defArgs s_law) (defBody s_law) (defScope s_law) [] [] (He.ga K "law") fd) : FnOk prog w K mg base (L2.CX prog w) (8 * l + 7 + 1) (He.ga K "law") fd ["script"] (spF (pm K) false (run GD defs (l + 1) 12)) := by
  obtain ⟨fr_all, fr_bool, fr_dict, fr_int, fr_isinstance, fr_len, fr_list, fr_max, fr_range, fr_str, fr_tuple, gx_KnittoldError, x_KnittoldError, gx_NoSuchThing, x_NoSuchThing, em, nt, d_is_tracks, d_row_in, d_rows_in, d_next_at, d_common, d_comes_again, d__law_draws, d__law_box, d__law_next, d__law_is, d__law_told, d__law_divisor, d_law⟩ := e
  have td := told0 ⟨fr_all, fr_bool, fr_dict, fr_int, fr_isinstance, fr_len, fr_list, fr_max, fr_range, fr_str, fr_tuple, gx_KnittoldError, x_KnittoldError, gx_NoSuchThing, x_NoSuchThing, em, nt, d_is_tracks, d_row_in, d_rows_in, d_next_at, d_common, d_comes_again, d__law_draws, d__law_box, d__law_next, d__law_is, d__law_told, d__law_divisor, d_law⟩
  refine fn_ok (cf := c_law) FD sc_law rfl rfl (by decide) fun cdv A outer s H E hr hcd => ?_
  have hu := room_hu hr
  have hr0 := hr.mono (j := 8 * l) (by omega)
  have hx : Passes (L2.CX prog w) (cxOf (L2.CX prog w) prog w K mg base ["script", "box", "tracks", "k", "lists", "first", "many", "row", "due", "j", "track", "start", "place", "told", "far", "whole", "numbers", "late", "pair", "wrong", "value"] "law" (defScope s_law) (He.ga K "law") cdv A outer s H E) E := hx_body rfl rfl rfl rfl
  have hp : PassesOwn (model prog w) (cxOf (L2.CX prog w) prog w K mg base ["script", "box", "tracks", "k", "lists", "first", "many", "row", "due", "j", "track", "start", "place", "told", "far", "whole", "numbers", "late", "pair", "wrong", "value"] "law" (defScope s_law) (He.ga K "law") cdv A outer s H E).A (cxOf (L2.CX prog w) prog w K mg base ["script", "box", "tracks", "k", "lists", "first", "many", "row", "due", "j", "track", "start", "place", "told", "far", "whole", "numbers", "late", "pair", "wrong", "value"] "law" (defScope s_law) (He.ga K "law") cdv A outer s H E).env (cxOf (L2.CX prog w) prog w K mg base ["script", "box", "tracks", "k", "lists", "first", "many", "row", "due", "j", "track", "start", "place", "told", "far", "whole", "numbers", "late", "pair", "wrong", "value"] "law" (defScope s_law) (He.ga K "law") cdv A outer s H E).xe := passes_of rfl
  have nd : (["script", "box", "tracks", "k", "lists", "first", "many", "row", "due", "j", "track", "start", "place", "told", "far", "whole", "numbers", "late", "pair", "wrong", "value"] : List PySem.Str).Nodup := sc_law.nd
  have hX_NoSuchThing : ∀ H, (pm K).XC 0 .non (.ref (He.ga K "NoSuchThing")) none H := fun _ => ⟨rfl, rfl, rfl⟩
  have hcode : ∀ p : He.Defn, He.fAd K p = He.ga K "law" → cdv = .ref (He.codeOf K p) := hcd
  have hmT : ((He.cT K ("law", none)).2, (envOfC "law" (defScope s_law) 0 0 .none).qual ++ "<lambda>") ∈ (pm K).T := List.mem_map.mpr ⟨(("law", none), (envOfC "law" (defScope s_law) 0 0 .none).qual ++ "<lambda>"), (.tail _ (.head _)), rfl⟩
  have hu1 : ∀ q ∈ (pm K).T, q.1 = (He.cT K ("law", none)).2 → q.2 = (envOfC "law" (defScope s_law) 0 0 .none).qual ++ "<lambda>" := uniq_of (p := ((He.cT K ("law", none)).2, (envOfC "law" (defScope s_law) 0 0 .none).qual ++ "<lambda>")) (by have h := nt; simpa [pm, tf, tfq] using h) hmT
  have TB : LamX.TabB base mg (He.cT K ("law", none)).1 (He.cT K ("law", none)).2 := TBs _ (List.mem_map.mpr ⟨("law", none), List.mem_map.mpr ⟨(("law", none), (envOfC "law" (defScope s_law) 0 0 .none).qual ++ "<lambda>"), (.tail _ (.head _)), rfl⟩, rfl⟩)
  have hr1 := hr.mono (j := 8 * l + 2) (by omega)
  have hXC : ∀ p cls dd H', (pm K).XC 0 p cls dd H' → PySem.W.exmOne K cls (.ref (He.ga K "NoSuchThing")) = some true := fun p cls dd H' h => by rw [h.2.2]; exact em
  exact (ks_cons (ks_set nd rfl (Or.inr k_law_box) (ke_call (tab._law_box) hr0 hx g_law__law_box (ka_F (ke_v rfl (Or.inl k_law_script)) ka_F0)))
  (ks_cons (ks_set nd rfl (Or.inl k_law_tracks) (ke_ty (f := .tuple) rfl (bi_tuple rfl) g_law_tuple fr_tuple bo_tuple (ka_R (ke_lc rfl nd (ki_r1 g_law_range fr_range (ke_bin (o := .add) rfl ke_int (ke_cio (tab._law_next) hr0 hx g_law__law_next rfl (Or.inr (Or.inl k_law_box)) (ka_F ke_int ka_F0)))) (blkOk_by (own := [("k", 3)]) rfl) (fun _ _ _ _ _ => (kg_n nd rfl (Or.inl rfl))) (fun _ _ _ _ _ => kts_no) (fun _ _ _ _ _ => (ke_tup (ka_F (ke_bin (o := .add) rfl ke_int (ke_cio (tab._law_next) hr0 passL rfl rfl (Or.inr (Or.inl rfl)) (ka_F ke_int ka_F0))) (ka_F (ke_bin (o := .add) rfl ke_int (ke_cio (tab._law_next) hr0 passL rfl rfl (Or.inr (Or.inl rfl)) (ka_F ke_int ka_F0))) ka_F0))))) ka_R0)))
  (ks_cons (ks_if (kb_nisl (l := (.bl true)) rfl (ke_call (tab.is_tracks) hr0 hx g_law_is_tracks (ka_F (ke_v rfl (Or.inl k_law_tracks)) ka_F0)) pe_bl)
  (ks_cons (ks_ret ke_bl)
  ks_nil)
  ks_nil)
  (ks_cons (ks_set nd rfl (Or.inl k_law_lists) (ke_lst ka_F0))
  (ks_cons (ks_for hp rfl (ki_ex rfl (ke_v rfl (Or.inl k_law_tracks))) (kg_t rfl rfl (kgs_cons (kg_n nd rfl (Or.inr k_law_first)) (kgs_cons (kg_n nd rfl (Or.inr k_law_many)) kgs_nil)))
  (ks_cons (ks_app rfl rfl (Or.inl k_law_lists) (ke_bin (o := .add) rfl (ke_bin (o := .mul) rfl (ke_lst (ka_F ke_non ka_F0)) (ke_v rfl (Or.inr (Or.inl k_law_first)))) (ke_bin (o := .mul) rfl (ke_lc rfl nd (ki_r1 g_law_range fr_range (ke_v rfl (Or.inr (Or.inl k_law_many)))) (blkOk_by (own := [("k", 3)]) rfl) (fun _ _ _ _ _ => (kg_n nd rfl (Or.inl rfl))) (fun _ _ _ _ _ => kts_no) (fun _ _ _ _ _ => (ke_bin (o := .add) rfl (ke_v rfl (Or.inl rfl)) ke_int))) ke_int)))
  ks_nil))
  (ks_cons (ks_for hp rfl (ki_r2 g_law_range fr_range ke_int ke_int) (kg_n nd rfl (Or.inl k_law_row))
  (ks_cons (ks_set nd rfl (Or.inl k_law_due) (ke_lst ka_F0))
  (ks_cons (ks_for hp rfl (ki_r1 g_law_range fr_range (ke_bi (f := .len) rfl (bi_len rfl) g_law_len fr_len bo_len (ka_R (ke_v rfl (Or.inl k_law_tracks)) ka_R0))) (kg_n nd rfl (Or.inl k_law_j))
  (ks_cons (ks_ust (ke_ix rfl hu (ke_v rfl (Or.inl k_law_tracks)) (ke_v rfl (Or.inl k_law_j)) (fun _ _ => rfl)) (kg_t rfl rfl (kgs_cons (kg_n nd rfl (Or.inr k_law_first)) (kgs_cons (kg_n nd rfl (Or.inr k_law_many)) kgs_nil))))
  (ks_cons (ks_app rfl rfl (Or.inl k_law_due) (ke_ite (kb_cmp (o := .lt) rfl hu (ke_v rfl (Or.inl k_law_row)) (ke_v rfl (Or.inr (Or.inl k_law_first))) (nomark _)) ke_non (ke_bin (o := .add) rfl (ke_bin (o := .sub) rfl (ke_bin (o := .sub) rfl (ke_v rfl (Or.inl k_law_row)) (ke_v rfl (Or.inr (Or.inl k_law_first)))) (ke_bin (o := .mul) rfl (ke_bin (o := .fdiv) rfl (ke_bin (o := .sub) rfl (ke_v rfl (Or.inl k_law_row)) (ke_v rfl (Or.inr (Or.inl k_law_first)))) (ke_v rfl (Or.inr (Or.inl k_law_many)))) (ke_v rfl (Or.inr (Or.inl k_law_many))))) ke_int)))
  (ks_cons (ks_if (PW.pt (kb_and (kb_cmp (o := .lt) rfl hu (ke_v rfl (Or.inl k_law_row)) (ke_bi (f := .len) rfl (bi_len rfl) g_law_len fr_len bo_len (ka_R (ke_ix rfl hu (ke_v rfl (Or.inl k_law_lists)) (ke_v rfl (Or.inl k_law_j)) (fun _ _ => rfl)) ka_R0)) (nomark _)) (kb_and1 (kb_cmp (o := .ne) rfl hu (ke_ix rfl hu (ke_ix rfl hu (ke_v rfl (Or.inl k_law_lists)) (ke_v rfl (Or.inl k_law_j)) (fun _ _ => rfl)) (ke_v rfl (Or.inl k_law_row)) (fun _ _ => rfl)) (ke_ix rfl hu (ke_v rfl (Or.inl k_law_due)) (ke_neg ke_int) (fun _ _ => rfl)) (nomark _)))))
  (ks_cons (ks_ret ke_bl)
  ks_nil)
  ks_nil)
  (ks_cons (ks_if (kb_nt (kb_tr rfl (ke_call (tab._law_is) hr0 hx g_law__law_is (ka_F (ke_call (tab.row_in) hr0 hx g_law_row_in (ka_F (ke_ix rfl hu (ke_v rfl (Or.inl k_law_tracks)) (ke_v rfl (Or.inl k_law_j)) (fun _ _ => rfl)) (ka_F (ke_v rfl (Or.inl k_law_row)) ka_F0))) (ka_F (ke_ix rfl hu (ke_v rfl (Or.inl k_law_due)) (ke_neg ke_int) (fun _ _ => rfl)) ka_F0))) (fun _ => rfl)))
  (ks_cons (ks_ret ke_bl)
  ks_nil)
  ks_nil)
  ks_nil)))))
  (ks_cons (ks_if (kb_nt (kb_tr rfl (ke_call (tab._law_is) hr0 hx g_law__law_is (ka_F (ke_call (tab.rows_in) hr0 hx g_law_rows_in (ka_F (ke_v rfl (Or.inl k_law_tracks)) (ka_F (ke_v rfl (Or.inl k_law_row)) ka_F0))) (ka_F (ke_v rfl (Or.inl k_law_due)) ka_F0))) (fun _ => rfl)))
  (ks_cons (ks_ret ke_bl)
  ks_nil)
  ks_nil)
  ks_nil))))
  (ks_cons (ks_for hp rfl (ki_ex rfl (ke_v rfl (Or.inl k_law_tracks))) (kg_n nd rfl (Or.inr k_law_track))
  (ks_cons (ks_ust (ke_v rfl (Or.inr (Or.inl k_law_track))) (kg_t rfl rfl (kgs_cons (kg_n nd rfl (Or.inr k_law_first)) (kgs_cons (kg_n nd rfl (Or.inr k_law_many)) kgs_nil))))
  (ks_cons (ks_set nd rfl (Or.inr k_law_start) (ke_bin (o := .add) rfl ke_int (ke_cio (tab._law_next) hr0 hx g_law__law_next rfl (Or.inr (Or.inl k_law_box)) (ka_F ke_int ka_F0))))
  (ks_cons (ks_for hp rfl (ki_r2 g_law_range fr_range ke_int (ke_bin (o := .add) rfl (ke_v rfl (Or.inr (Or.inl k_law_many))) ke_int)) (kg_n nd rfl (Or.inr k_law_place))
  (ks_cons (ks_set nd rfl (Or.inl k_law_told) (ke_told0 (k := 8 * l) td hXC rfl sc__law_told (by decide +kernel) (Or.inl (by decide +kernel)) g_law__law_told TB (hcode _ rfl) hmT hu1 hr1 (LamX.lamS_by rfl) rfl (fun _ _ _ _ _ => rfl) (fun A2 outer2 s2 H2 E2 f2 c2 hr2 => have hu2 := room_hu hr2; (ke_call (tab.next_at) hr2 (hx_body rfl rfl rfl rfl) rfl (ka_F (ke_v rfl (Or.inr (Or.inr rfl))) (ka_F (ke_v rfl (Or.inr (Or.inr rfl))) (ka_F (ke_v rfl (Or.inr (Or.inr rfl))) ka_F0)))))))
  (ks_cons (ks_if (kb_nt (kb_chn (o := .le) (p := .le) rfl hu ke_int (ke_v rfl (Or.inr (Or.inl k_law_place))) (ke_v rfl (Or.inr (Or.inl k_law_many)))))
  (ks_cons (ks_if (kb_cmp (o := .ne) rfl hu (ke_v rfl (Or.inl k_law_told)) (ke_tup (ka_F (ke_str (by decide +kernel) (by decide +kernel)) (ka_F (ke_str (by decide +kernel) (by decide +kernel)) ka_F0))) (nomark _))
  (ks_cons (ks_ret ke_bl)
  ks_nil)
  ks_nil)
  (ks_cons ks_cont
  ks_nil))
  ks_nil)
  (ks_cons (ks_set nd rfl (Or.inl k_law_due) (ke_ix rfl hu (ke_lc rfl nd (ki_r2 g_law_range fr_range (ke_bi (f := .max2) rfl (bi_max2 rfl) g_law_max fr_max bo_max (ka_R (ke_v rfl (Or.inr (Or.inl k_law_start))) (ka_R (ke_v rfl (Or.inr (Or.inl k_law_first))) ka_R0))) (ke_bin (o := .add) rfl (ke_bi (f := .max2) rfl (bi_max2 rfl) g_law_max fr_max bo_max (ka_R (ke_v rfl (Or.inr (Or.inl k_law_start))) (ka_R (ke_v rfl (Or.inr (Or.inl k_law_first))) ka_R0))) (ke_v rfl (Or.inr (Or.inl k_law_many))))) (blkOk_by (own := [("row", 7)]) rfl) (fun _ _ _ _ _ => (kg_n nd rfl (Or.inl rfl))) (fun _ _ _ _ _ => (kts_so (kb_cmp (o := .eq) rfl hu (ke_bin (o := .mul) rfl (ke_bin (o := .fdiv) rfl (ke_bin (o := .add) rfl (ke_bin (o := .sub) rfl (ke_bin (o := .sub) rfl (ke_v rfl (Or.inl rfl)) (ke_v rfl (Or.inr (Or.inl rfl)))) (ke_v rfl (Or.inr (Or.inl rfl)))) ke_int) (ke_v rfl (Or.inr (Or.inl rfl)))) (ke_v rfl (Or.inr (Or.inl rfl)))) (ke_bin (o := .add) rfl (ke_bin (o := .sub) rfl (ke_bin (o := .sub) rfl (ke_v rfl (Or.inl rfl)) (ke_v rfl (Or.inr (Or.inl rfl)))) (ke_v rfl (Or.inr (Or.inl rfl)))) ke_int) (nomark _)))) (fun _ _ _ _ _ => (ke_v rfl (Or.inl rfl)))) ke_int (fun _ _ => rfl)))
  (ks_cons (ks_if (PW.pt (kb_or (kb_nt (kb_tr rfl (ke_call (tab._law_is) hr0 hx g_law__law_is (ka_F (ke_v rfl (Or.inl k_law_told)) (ka_F (ke_v rfl (Or.inl k_law_due)) ka_F0))) (fun _ => rfl))) (kb_or1 (kb_cmp (o := .ne) rfl hu (ke_call (tab.row_in) hr0 hx g_law_row_in (ka_F (ke_v rfl (Or.inr (Or.inl k_law_track))) (ka_F (ke_v rfl (Or.inl k_law_told)) ka_F0))) (ke_v rfl (Or.inr (Or.inl k_law_place))) (nomark _)))))
  (ks_cons (ks_ret ke_bl)
  ks_nil)
  ks_nil)
  ks_nil)))))
  (ks_cons (ks_set nd rfl (Or.inl k_law_far) (ke_bin (o := .add) rfl ke_int (ke_cio (tab._law_next) hr0 hx g_law__law_next rfl (Or.inr (Or.inl k_law_box)) (ka_F ke_int ka_F0))))
  (ks_cons (ks_if (kb_nt (kb_tr rfl (ke_call (tab._law_is) hr0 hx g_law__law_is (ka_F (ke_call (tab.row_in) hr0 hx g_law_row_in (ka_F (ke_v rfl (Or.inr (Or.inl k_law_track))) (ka_F (ke_v rfl (Or.inl k_law_far)) ka_F0))) (ka_F (ke_bin (o := .add) rfl (ke_bin (o := .sub) rfl (ke_bin (o := .sub) rfl (ke_v rfl (Or.inl k_law_far)) (ke_v rfl (Or.inr (Or.inl k_law_first)))) (ke_bin (o := .mul) rfl (ke_bin (o := .fdiv) rfl (ke_bin (o := .sub) rfl (ke_v rfl (Or.inl k_law_far)) (ke_v rfl (Or.inr (Or.inl k_law_first)))) (ke_v rfl (Or.inr (Or.inl k_law_many)))) (ke_v rfl (Or.inr (Or.inl k_law_many))))) ke_int) ka_F0))) (fun _ => rfl)))
  (ks_cons (ks_ret ke_bl)
  ks_nil)
  ks_nil)
  ks_nil))))))
  (ks_cons (ks_set nd rfl (Or.inl k_law_whole) ke_int)
  (ks_cons (ks_for hp rfl (ki_ex rfl (ke_v rfl (Or.inl k_law_tracks))) (kg_t rfl rfl (kgs_cons (kg_n nd rfl (Or.inr k_law_first)) (kgs_cons (kg_n nd rfl (Or.inr k_law_many)) kgs_nil)))
  (ks_cons (ks_set nd rfl (Or.inl k_law_whole) (ke_bin (o := .fdiv) rfl (ke_bin (o := .mul) rfl (ke_v rfl (Or.inl k_law_whole)) (ke_v rfl (Or.inr (Or.inl k_law_many)))) (ke_call (tab._law_divisor) hr0 hx g_law__law_divisor (ka_F (ke_v rfl (Or.inl k_law_whole)) (ka_F (ke_v rfl (Or.inr (Or.inl k_law_many))) ka_F0)))))
  ks_nil))
  (ks_cons (ks_setLc rfl nd rfl k_law_numbers rfl (ki_ex rfl (ke_v rfl (Or.inl k_law_tracks))) (blkOk_by (own := [("track", 10)]) rfl) (fun _ _ _ _ _ => (kg_n nd rfl (Or.inl rfl))) (fun _ _ _ _ _ => kts_no) (fun _ _ _ _ _ => (ke_ix rfl hu (ke_v rfl (Or.inl rfl)) ke_int (fun _ _ => rfl))))
  (ks_cons (ks_if (PW.pt (kb_or (kb_nt (kb_tr rfl (ke_call (tab._law_is) hr0 hx g_law__law_is (ka_F (ke_call (tab.common) hr0 hx g_law_common (ka_F (ke_ty (f := .list) rfl (bi_list rfl) g_law_list fr_list bo_list (ka_R (ke_v rfl (Or.inl k_law_numbers)) ka_R0)) ka_F0)) (ka_F (ke_v rfl (Or.inl k_law_whole)) ka_F0))) (fun _ => rfl))) (kb_or (kb_nt (kb_tr rfl (ke_call (tab._law_is) hr0 hx g_law__law_is (ka_F (ke_call (tab.comes_again) hr0 hx g_law_comes_again (ka_F (ke_v rfl (Or.inl k_law_tracks)) ka_F0)) (ka_F (ke_v rfl (Or.inl k_law_whole)) ka_F0))) (fun _ => rfl))) (kb_or1 (kb_nt (kb_tr rfl (ke_call (tab._law_is) hr0 hx g_law__law_is (ka_F (ke_call (tab.common) hr0 hx g_law_common (ka_F (ke_lst ka_F0) ka_F0)) (ka_F ke_int ka_F0))) (fun _ => rfl)))))))
  (ks_cons (ks_ret ke_bl)
  ks_nil)
  ks_nil)
  (ks_cons (ks_set nd rfl (Or.inl k_law_late) (ke_bin (o := .add) rfl (ke_bi (f := .max) rfl (bi_max rfl) g_law_max fr_max bo_max (ka_R (ke_lc rfl nd (ki_ex rfl (ke_v rfl (Or.inl k_law_tracks))) (blkOk_by (own := [("track", 10)]) rfl) (fun _ _ _ _ _ => (kg_n nd rfl (Or.inl rfl))) (fun _ _ _ _ _ => kts_no) (fun _ _ _ _ _ => (ke_ix rfl hu (ke_v rfl (Or.inl rfl)) ke_int (fun _ _ => rfl)))) ka_R0)) (ke_cio (tab._law_next) hr0 hx g_law__law_next rfl (Or.inr (Or.inl k_law_box)) (ka_F ke_int ka_F0))))
  (ks_cons (ks_if (kb_cmp (o := .ne) rfl hu (ke_call (tab.rows_in) hr0 hx g_law_rows_in (ka_F (ke_v rfl (Or.inl k_law_tracks)) (ka_F (ke_v rfl (Or.inl k_law_late)) ka_F0))) (ke_call (tab.rows_in) hr0 hx g_law_rows_in (ka_F (ke_v rfl (Or.inl k_law_tracks)) (ka_F (ke_bin (o := .add) rfl (ke_v rfl (Or.inl k_law_late)) (ke_v rfl (Or.inl k_law_whole))) ka_F0))) (nomark _))
  (ks_cons (ks_ret ke_bl)
  ks_nil)
  ks_nil)
  (ks_cons (ks_set nd rfl (Or.inl k_law_pair) (ke_tup (ka_F ke_int (ka_F ke_int ka_F0))))
  (ks_cons (ks_set nd rfl (Or.inl k_law_wrong) (ke_lst (ka_F (ke_tup ka_F0) (ka_F (ke_tup (ka_F (ke_tup (ka_F ke_int (ka_F ke_int ka_F0))) ka_F0)) (ka_F (ke_tup (ka_F (ke_tup (ka_F ke_int (ka_F ke_int ka_F0))) ka_F0)) (ka_F (ke_tup (ka_F (ke_tup (ka_F ke_int (ka_F ke_int ka_F0))) ka_F0)) (ka_F (ke_tup (ka_F (ke_tup (ka_F ke_int (ka_F ke_int ka_F0))) ka_F0)) (ka_F (ke_tup (ka_F (ke_tup (ka_F ke_bl (ka_F ke_int ka_F0))) ka_F0)) (ka_F (ke_tup (ka_F (ke_tup (ka_F ke_int (ka_F (ke_str (by decide +kernel) (by decide +kernel)) ka_F0))) ka_F0)) (ka_F (ke_tup (ka_F (ke_tup (ka_F ke_int ka_F0)) ka_F0)) (ka_F (ke_tup (ka_F (ke_tup (ka_F ke_int (ka_F ke_int (ka_F ke_int ka_F0)))) ka_F0)) (ka_F (ke_tup (ka_F (ke_lst (ka_F ke_int (ka_F ke_int ka_F0))) ka_F0)) (ka_F (ke_lst (ka_F (ke_v rfl (Or.inl k_law_pair)) ka_F0)) (ka_F (ke_bin (o := .mul) rfl (ke_tup (ka_F (ke_v rfl (Or.inl k_law_pair)) ka_F0)) ke_int) (ka_F ke_non (ka_F (ke_v rfl (Or.inl k_law_pair)) (ka_F (ke_tup (ka_F (ke_v rfl (Or.inl k_law_pair)) (ka_F ke_non ka_F0))) ka_F0)))))))))))))))))
  (ks_cons (ks_ret (ke_and (ke_isl (l := (.bl true)) rfl (ke_call (tab.is_tracks) hr0 hx g_law_is_tracks (ka_F (ke_bin (o := .mul) rfl (ke_tup (ka_F (ke_v rfl (Or.inl k_law_pair)) ka_F0)) ke_int) ka_F0)) pe_bl) (ke_and (ke_isl (l := (.bl true)) rfl (ke_call (tab.is_tracks) hr0 hx g_law_is_tracks (ka_F (ke_tup (ka_F (ke_tup (ka_F ke_int (ka_F ke_int ka_F0))) ka_F0)) ka_F0)) pe_bl) (ke_one (ke_bi (f := .all) rfl (bi_all rfl) g_law_all fr_all bo_all (ka_R (ke_lc rfl nd (ki_ex rfl (ke_v rfl (Or.inl k_law_wrong))) (blkOk_by (own := [("value", 20)]) rfl) (fun _ _ _ _ _ => (kg_n nd rfl (Or.inl rfl))) (fun _ _ _ _ _ => kts_no) (fun _ _ _ _ _ => (ke_isl (l := (.bl false)) rfl (ke_call (tab.is_tracks) hr0 passL rfl (ka_F (ke_v rfl (Or.inl rfl)) ka_F0)) pe_bl))) ka_R0))))))
  ks_nil))))))))))))))))
theorem tab_ok (e : Env0K K mg) (TBs : ∀ p ∈ tf.map (He.cT K), LamX.TabB base mg p.1 p.2) : ∀ l, Tab prog w K mg base l
  | 0 => by
    obtain ⟨m_is_tracks, fd_is_tracks, F_is_tracks⟩ := e.d_is_tracks
    obtain ⟨m_row_in, fd_row_in, F_row_in⟩ := e.d_row_in
    obtain ⟨m_rows_in, fd_rows_in, F_rows_in⟩ := e.d_rows_in
    obtain ⟨m_next_at, fd_next_at, F_next_at⟩ := e.d_next_at
    obtain ⟨m_common, fd_common, F_common⟩ := e.d_common
    obtain ⟨m_comes_again, fd_comes_again, F_comes_again⟩ := e.d_comes_again
    obtain ⟨m__law_draws, fd__law_draws, F__law_draws⟩ := e.d__law_draws
    obtain ⟨m__law_box, fd__law_box, F__law_box⟩ := e.d__law_box
    obtain ⟨m__law_next, fd__law_next, F__law_next⟩ := e.d__law_next
    obtain ⟨m__law_is, fd__law_is, F__law_is⟩ := e.d__law_is
    obtain ⟨m__law_divisor, fd__law_divisor, F__law_divisor⟩ := e.d__law_divisor
    obtain ⟨m_law, fd_law, F_law⟩ := e.d_law
    exact ⟨⟨_, fd_is_tracks, ["value"], m_is_tracks, F_is_tracks.kp, fn_bad, F_is_tracks.bindsN (fun _ _ _ _ _ _ us hl => match us, hl with | [_], _ => rfl)⟩,
      ⟨_, fd_row_in, ["track", "row"], m_row_in, F_row_in.kp, fn_bad, F_row_in.bindsN (fun _ _ _ _ _ _ us hl => match us, hl with | [_, _], _ => rfl)⟩,
      ⟨_, fd_rows_in, ["tracks", "row"], m_rows_in, F_rows_in.kp, fn_bad, F_rows_in.bindsN (fun _ _ _ _ _ _ us hl => match us, hl with | [_, _], _ => rfl)⟩,
      ⟨_, fd_next_at, ["track", "place", "row"], m_next_at, F_next_at.kp, fn_bad, F_next_at.bindsN (fun _ _ _ _ _ _ us hl => match us, hl with | [_, _, _], _ => rfl)⟩,
      ⟨_, fd_common, ["numbers"], m_common, F_common.kp, fn_bad, F_common.bindsN (fun _ _ _ _ _ _ us hl => match us, hl with | [_], _ => rfl)⟩,
      ⟨_, fd_comes_again, ["tracks"], m_comes_again, F_comes_again.kp, fn_bad, F_comes_again.bindsN (fun _ _ _ _ _ _ us hl => match us, hl with | [_], _ => rfl)⟩,
      ⟨_, fd__law_draws, ["cell", "modulus", "count"], m__law_draws, F__law_draws.kp, fn_bad, F__law_draws.bindsN (fun _ _ _ _ _ _ us hl => match us, hl with | [_, _, _], _ => rfl)⟩,
      ⟨_, fd__law_box, ["script"], m__law_box, F__law_box.kp, fn_bad, F__law_box.bindsN (fun _ _ _ _ _ _ us hl => match us, hl with | [_], _ => rfl)⟩,
      ⟨_, fd__law_next, ["box", "modulus"], m__law_next, F__law_next.kp, fn_bad, F__law_next.bindsN (fun _ _ _ _ _ _ us hl => match us, hl with | [_, _], _ => rfl)⟩,
      ⟨_, fd__law_is, ["got", "due"], m__law_is, F__law_is.kp, fn_bad, F__law_is.bindsN (fun _ _ _ _ _ _ us hl => match us, hl with | [_, _], _ => rfl)⟩,
      ⟨_, fd__law_divisor, ["a", "b"], m__law_divisor, F__law_divisor.kp, fn_bad, F__law_divisor.bindsN (fun _ _ _ _ _ _ us hl => match us, hl with | [_, _], _ => rfl)⟩,
      ⟨_, fd_law, ["script"], m_law, F_law.kp, fn_bad, F_law.bindsN (fun _ _ _ _ _ _ us hl => match us, hl with | [_], _ => rfl)⟩⟩
  | l + 1 => by
    have t := tab_ok e TBs l
    obtain ⟨m_is_tracks, fd_is_tracks, F_is_tracks⟩ := e.d_is_tracks
    obtain ⟨m_row_in, fd_row_in, F_row_in⟩ := e.d_row_in
    obtain ⟨m_rows_in, fd_rows_in, F_rows_in⟩ := e.d_rows_in
    obtain ⟨m_next_at, fd_next_at, F_next_at⟩ := e.d_next_at
    obtain ⟨m_common, fd_common, F_common⟩ := e.d_common
    obtain ⟨m_comes_again, fd_comes_again, F_comes_again⟩ := e.d_comes_again
    obtain ⟨m__law_draws, fd__law_draws, F__law_draws⟩ := e.d__law_draws
    obtain ⟨m__law_box, fd__law_box, F__law_box⟩ := e.d__law_box
    obtain ⟨m__law_next, fd__law_next, F__law_next⟩ := e.d__law_next
    obtain ⟨m__law_is, fd__law_is, F__law_is⟩ := e.d__law_is
    obtain ⟨m__law_divisor, fd__law_divisor, F__law_divisor⟩ := e.d__law_divisor
    obtain ⟨m_law, fd_law, F_law⟩ := e.d_law
    exact ⟨⟨_, fd_is_tracks, ["value"], m_is_tracks, F_is_tracks.kp, ok_is_tracks e TBs t F_is_tracks, F_is_tracks.bindsN (fun _ _ _ _ _ _ us hl => match us, hl with | [_], _ => rfl)⟩,
      ⟨_, fd_row_in, ["track", "row"], m_row_in, F_row_in.kp, ok_row_in e t F_row_in, F_row_in.bindsN (fun _ _ _ _ _ _ us hl => match us, hl with | [_, _], _ => rfl)⟩,
      ⟨_, fd_rows_in, ["tracks", "row"], m_rows_in, F_rows_in.kp, ok_rows_in e t F_rows_in, F_rows_in.bindsN (fun _ _ _ _ _ _ us hl => match us, hl with | [_, _], _ => rfl)⟩,
      ⟨_, fd_next_at, ["track", "place", "row"], m_next_at, F_next_at.kp, ok_next_at e t F_next_at, F_next_at.bindsN (fun _ _ _ _ _ _ us hl => match us, hl with | [_, _, _], _ => rfl)⟩,
      ⟨_, fd_common, ["numbers"], m_common, F_common.kp, ok_common e t F_common, F_common.bindsN (fun _ _ _ _ _ _ us hl => match us, hl with | [_], _ => rfl)⟩,
      ⟨_, fd_comes_again, ["tracks"], m_comes_again, F_comes_again.kp, ok_comes_again e t F_comes_again, F_comes_again.bindsN (fun _ _ _ _ _ _ us hl => match us, hl with | [_], _ => rfl)⟩,
      ⟨_, fd__law_draws, ["cell", "modulus", "count"], m__law_draws, F__law_draws.kp, ok__law_draws e t F__law_draws, F__law_draws.bindsN (fun _ _ _ _ _ _ us hl => match us, hl with | [_, _, _], _ => rfl)⟩,
      ⟨_, fd__law_box, ["script"], m__law_box, F__law_box.kp, ok__law_box e t F__law_box, F__law_box.bindsN (fun _ _ _ _ _ _ us hl => match us, hl with | [_], _ => rfl)⟩,
      ⟨_, fd__law_next, ["box", "modulus"], m__law_next, F__law_next.kp, ok__law_next e t F__law_next, F__law_next.bindsN (fun _ _ _ _ _ _ us hl => match us, hl with | [_, _], _ => rfl)⟩,
      ⟨_, fd__law_is, ["got", "due"], m__law_is, F__law_is.kp, ok__law_is e t F__law_is, F__law_is.bindsN (fun _ _ _ _ _ _ us hl => match us, hl with | [_, _], _ => rfl)⟩,
      ⟨_, fd__law_divisor, ["a", "b"], m__law_divisor, F__law_divisor.kp, ok__law_divisor e t F__law_divisor, F__law_divisor.bindsN (fun _ _ _ _ _ _ us hl => match us, hl with | [_, _], _ => rfl)⟩,
      ⟨_, fd_law, ["script"], m_law, F_law.kp, ok_law e TBs t F_law, F_law.bindsN (fun _ _ _ _ _ _ us hl => match us, hl with | [_], _ => rfl)⟩⟩
end
/-! ### the head -/
def dd_is_tracks : He.DefD := ⟨("is_tracks", none), "is_tracks", "is_tracks", defArgs s_is_tracks, defBody s_is_tracks, defScope s_is_tracks, [], []⟩
def dd_row_in : He.DefD := ⟨("row_in", none), "row_in", "row_in", defArgs s_row_in, defBody s_row_in, defScope s_row_in, [], []⟩
def dd_rows_in : He.DefD := ⟨("rows_in", none), "rows_in", "rows_in", defArgs s_rows_in, defBody s_rows_in, defScope s_rows_in, [], []⟩
def dd_next_at : He.DefD := ⟨("next_at", none), "next_at", "next_at", defArgs s_next_at, defBody s_next_at, defScope s_next_at, [], []⟩
def dd_common : He.DefD := ⟨("common", none), "common", "common", defArgs s_common, defBody s_common, defScope s_common, [], []⟩
def dd_comes_again : He.DefD := ⟨("comes_again", none), "comes_again", "comes_again", defArgs s_comes_again, defBody s_comes_again, defScope s_comes_again, [], []⟩
def dd__law_draws : He.DefD := ⟨("_law_draws", none), "_law_draws", "_law_draws", defArgs s__law_draws, defBody s__law_draws, defScope s__law_draws, [], []⟩
def dd__law_box : He.DefD := ⟨("_law_box", none), "_law_box", "_law_box", defArgs s__law_box, defBody s__law_box, defScope s__law_box, [], []⟩
def dd__law_next : He.DefD := ⟨("_law_next", none), "_law_next", "_law_next", defArgs s__law_next, defBody s__law_next, defScope s__law_next, [], []⟩
def dd__law_is : He.DefD := ⟨("_law_is", none), "_law_is", "_law_is", defArgs s__law_is, defBody s__law_is, defScope s__law_is, [], []⟩
def dd__law_told : He.DefD := ⟨("_law_told", none), "_law_told", "_law_told", defArgs s__law_told, defBody s__law_told, defScope s__law_told, [], []⟩
def dd__law_divisor : He.DefD := ⟨("_law_divisor", none), "_law_divisor", "_law_divisor", defArgs s__law_divisor, defBody s__law_divisor, defScope s__law_divisor, [], []⟩
def dd_law : He.DefD := ⟨("law", none), "law", "law", defArgs s_law, defBody s_law, defScope s_law, [], []⟩
def fn : List He.DefD := [dd_is_tracks, dd_row_in, dd_rows_in, dd_next_at, dd_common, dd_comes_again, dd__law_draws, dd__law_box, dd__law_next, dd__law_is, dd__law_told, dd__law_divisor, dd_law]
def fa : List He.Fa := [.free "all", .free "bool", .free "dict", .free "int", .free "isinstance", .free "len", .free "list", .free "max", .free "range", .free "str", .free "tuple", .glo "KnittoldError", .exc "KnittoldError", .glo "NoSuchThing", .exc "NoSuchThing", .exm "NoSuchThing" "NoSuchThing" true, .glo "is_tracks", .glo "row_in", .glo "rows_in", .glo "next_at", .glo "common", .glo "comes_again", .glo "_law_draws", .glo "_law_box", .glo "_law_next", .glo "_law_is", .glo "_law_told", .glo "_law_divisor", .glo "law"]
theorem env0 {w : World} {h : Heap} {K : PySem.W.Frag} {mg : PySem.Str → Option Value} (X : K.In h) (G : h.Ns mainGlobals mg) (c : He.SaysX fa fn [] tf (fun K => decide (tf.map fun p => (He.cT K p).2).Nodup) w h K) : Env0K K mg := by
  have d := c.t.d
  exact ⟨He.free_ok X G (d.fact 0 (f := .free "all") rfl),
    He.free_ok X G (d.fact 1 (f := .free "bool") rfl),
    He.free_ok X G (d.fact 2 (f := .free "dict") rfl),
    He.free_ok X G (d.fact 3 (f := .free "int") rfl),
    He.free_ok X G (d.fact 4 (f := .free "isinstance") rfl),
    He.free_ok X G (d.fact 5 (f := .free "len") rfl),
    He.free_ok X G (d.fact 6 (f := .free "list") rfl),
    He.free_ok X G (d.fact 7 (f := .free "max") rfl),
    He.free_ok X G (d.fact 8 (f := .free "range") rfl),
    He.free_ok X G (d.fact 9 (f := .free "str") rfl),
    He.free_ok X G (d.fact 10 (f := .free "tuple") rfl),
    He.glo_ok X G (d.fact 11 (f := .glo "KnittoldError") rfl),
    He.exc_ok (d.fact 12 (f := .exc "KnittoldError") rfl),
    He.glo_ok X G (d.fact 13 (f := .glo "NoSuchThing") rfl),
    He.exc_ok (d.fact 14 (f := .exc "NoSuchThing") rfl),
    He.exm_ok (d.fact 15 (f := .exm "NoSuchThing" "NoSuchThing" true) rfl),
    of_decide_eq_true c.more,
    ⟨He.glo_ok X G (d.fact 16 (f := .glo "is_tracks") rfl), d.def_ 0 (d := dd_is_tracks) rfl⟩,
    ⟨He.glo_ok X G (d.fact 17 (f := .glo "row_in") rfl), d.def_ 1 (d := dd_row_in) rfl⟩,
    ⟨He.glo_ok X G (d.fact 18 (f := .glo "rows_in") rfl), d.def_ 2 (d := dd_rows_in) rfl⟩,
    ⟨He.glo_ok X G (d.fact 19 (f := .glo "next_at") rfl), d.def_ 3 (d := dd_next_at) rfl⟩,
    ⟨He.glo_ok X G (d.fact 20 (f := .glo "common") rfl), d.def_ 4 (d := dd_common) rfl⟩,
    ⟨He.glo_ok X G (d.fact 21 (f := .glo "comes_again") rfl), d.def_ 5 (d := dd_comes_again) rfl⟩,
    ⟨He.glo_ok X G (d.fact 22 (f := .glo "_law_draws") rfl), d.def_ 6 (d := dd__law_draws) rfl⟩,
    ⟨He.glo_ok X G (d.fact 23 (f := .glo "_law_box") rfl), d.def_ 7 (d := dd__law_box) rfl⟩,
    ⟨He.glo_ok X G (d.fact 24 (f := .glo "_law_next") rfl), d.def_ 8 (d := dd__law_next) rfl⟩,
    ⟨He.glo_ok X G (d.fact 25 (f := .glo "_law_is") rfl), d.def_ 9 (d := dd__law_is) rfl⟩,
    ⟨He.glo_ok X G (d.fact 26 (f := .glo "_law_told") rfl), d.def_ 10 (d := dd__law_told) rfl⟩,
    ⟨He.glo_ok X G (d.fact 27 (f := .glo "_law_divisor") rfl), d.def_ 11 (d := dd__law_divisor) rfl⟩,
    ⟨He.glo_ok X G (d.fact 28 (f := .glo "law") rfl), d.def_ 12 (d := dd_law) rfl⟩⟩
abbrev R : PySem.W.OpenRow := PySem.W.OpenLaw.row RW
abbrev hk : PySem.W.Hook := He.hookX 5 fa fn [] tf (fun K => decide (tf.map fun p => (He.cT K p).2).Nodup)
def ob (s : PySem.W.SharedT) : He.AlX := He.obsX 5 fa fn [] tf (fun K => decide (tf.map fun p => (He.cT K p).2).Nodup) (HandSHeadRun.getT s)
theorem ob_eq (s : PySem.W.SharedT) : ob s = hk.obs s.abs := He.obsX_eq (HandSHeadRun.getT_eq s)
def loose : List PySem.Str := ["KnittoldError", "NoSuchThing", "is_tracks", "row_in", "rows_in", "next_at", "common", "comes_again", "_law_draws", "_law_box", "_law_next", "_law_is", "_law_told", "_law_divisor"]
theorem run_top (w : World) : HandSHeadRun.RunEq R (PySem.W.view R.prog [17]) hk ob 4000 loose w := by
  intro os
  kernel_rfl
theorem holds (hlaw : ∀ ns : List Int, ns.length ≤ 63 → (∀ z ∈ ns, Builtin.Int.intBits z ≤ 1048576) → ∃ x : D, run GD defs 20 12 [.scr ns] = .ok ((false, .bl true), x)) : RW.Holds := by
  w_on; o_law
  refine HandSHeadRun.head_any (r := R) (q := PySem.W.view R.prog [17]) (H := hk) (ob := ob) (M := 4000) (loose := loose) (d := HandSHeadRun.topDef R.prog 17) (kwd := []) ob_eq
    (by kernel_rfl) (fun s => by kernel_rfl) run_top (by kernel_rfl) (by kernel_rfl) (by kernel_rfl) (by rfl) (by first | assumption | decide +kernel) (by decide +kernel) ⟨rfl, rfl, rfl, rfl, rfl, by decide +kernel⟩ ?hw ?hc
  case hw => w_witness2
  case hc =>
    refine LamX.walk_ofTsE (l := RW) (n := 63) (k := 8 * 19 + 7 + 1) (x := "script") (CX := fun w => L2.CX RW.prog w) rfl (by decide) (by kernel_rfl) ⟨rfl, by decide, by decide⟩ ?F (fun w H s e s' z => by obtain ⟨_, _, _, _, _, _, _, _, _, _, _, _, f⟩ := z; exact f)
    intro w mg fad h Y G hmg0
    obtain ⟨K, KX, c⟩ := Y
    have hmg : mg ("law" : PySem.Str) = some (.ref fad) := by
      have e : (HandSHeadRun.topDef R.prog 17).name = ("law" : PySem.Str) := by kernel_rfl
      rw [← e]
      exact hmg0
    have e := env0 KX G c
    obtain ⟨m_law, fd, FD⟩ := e.d_law
    have ef : fad = He.ga K "law" := by
      have z := hmg.symm.trans m_law
      cases z
      rfl
    subst ef
    refine ⟨K, KX, fd, tf.map (He.cT K), spF (pm K) false (run GD defs 20 12), fun p hp => ?_, fun p hp => ?_, fun p hp => ?_, fun s u => FD.bindsA (ps := ["script"]) (fun _ _ _ _ _ _ us hl => match us, hl with | [_], _ => rfl) s [u] rfl, fun H a ns hl hb hT hS => ?_, fun base hb0 hn0 hTB => ?_⟩
    · obtain ⟨q, hq, rfl⟩ := List.mem_map.mp hp
      exact c.empty q hq
    · obtain ⟨q, hq, rfl⟩ := List.mem_map.mp hp
      exact c.out q hq
    · obtain ⟨q, hq, rfl⟩ := List.mem_map.mp hp
      exact PySem.W.codeHd_of_K KX (c.hd q hq)
    · obtain ⟨x, hx⟩ := hlaw ns hl hb
      exact law_sp (P := pm K) (by
        intro p hp
        obtain ⟨q, hq, rfl⟩ := List.mem_map.mp hp
        exact LamX.TabS.nil (hT _ (List.mem_map.mpr ⟨q.1, List.mem_map.mpr ⟨q, hq, rfl⟩, rfl⟩))) hS hx
    · have t := tab_ok (prog := RW.prog) (w := w) (base := base) e hTB 19
      exact ok_law e hTB t FD
end Kn.L

end

section
/-! K, the plain side: readings of the core's meaning, for `simp only`. -/
namespace Kn

set_option checkBinderAnnotations false in
/-- the same as R.bind, its way on out of sight of simp -/
def R.bnd {α β : Type} (x : R α) [f : α → R β] : R β := R.bind x f
theorem R.bind_bnd {α β : Type} (x : R α) (f : α → R β) : R.bind x f = @R.bnd α β x f := rfl
theorem R.bnd_ok {α β : Type} (a : α) (f : α → R β) : @R.bnd α β (.ok a) f = f a := rfl
theorem R.bnd_exc {α β : Type} (c : Nat) (p : D) (f : α → R β) : @R.bnd α β (.exc c p) f = .exc c p := rfl
theorem R.bnd_bad {α β : Type} (f : α → R β) : @R.bnd α β .bad f = .bad := rfl
theorem R.bind_ok {α β : Type} (a : α) (f : α → R β) : R.bind (.ok a) f = f a := rfl
theorem R.bind_exc {α β : Type} (c : Nat) (p : D) (f : α → R β) : R.bind (.exc c p) f = .exc c p := rfl
theorem R.bind_bad {α β : Type} (f : α → R β) : R.bind .bad f = .bad := rfl
theorem R.of_some {α : Type} (a : α) : R.of (some a) = .ok a := rfl
theorem R.calm_ok {α : Type} (a : α) : R.calm (.ok a) = .ok a := rfl
theorem hvI (d : D) : (RV.imm d).hv = .d d := rfl
theorem hvT (d : D) : (RV.tmp d).hv = .d d := rfl
theorem hvS (i : Nat) : (RV.slot i).hv = .s i := rfl

theorem isKey_ss (x y : List Nat) : D.isKey (.str x) (.str y) = (x == y) := by simp only [D.isKey]
theorem isKey_ii (x y : Int) : D.isKey (.int x) (.int y) = (x == y) := by simp only [D.isKey]
theorem hasKey_n (k : D) : hasKey k [] = false := rfl
theorem hasKey_c (k x : D) (xs : List D) : hasKey k (x :: xs) = (D.isKey k x || hasKey k xs) := rfl

theorem dkey0_s (x : List Nat) : dkey0 (.str x) = true := rfl
theorem dkey0_i (x : Int) : dkey0 (.int x) = true := rfl
theorem dkeys_s (x : List Nat) (ks : List D) : dkeys (.str x) ks = ks.all dkey0 := by simp [dkeys, dkey0]
theorem dkeys_i (x : Int) (ks : List D) : dkeys (.int x) ks = ks.all dkey0 := by simp [dkeys, dkey0]
theorem smB_eq (i : Int) : smB i = (decide (-16777216 ≤ i) && decide (i ≤ 16777216)) := by rw [smB]
theorem sm64_eq (i : Int) : sm64 i = (decide (-18446744073709551616 < i) && decide (i < 18446744073709551616)) := by rw [sm64]
theorem line_lit : line = 16777216 := Nat.le_antisymm (by decide) (by decide)

/-- where a block goes on -/
def goB (GD : Nat → D) (F : Nat → Fn) (z : Bool) (b : CB) : FR → R FR
  | .nx ρ' => denBl GD F z b ρ'
  | f => .ok f
theorem denBl_c (GD : Nat → D) (F : Nat → Fn) (z : Bool) (s : CS) (b : CB) (ρ : Env) : denBl GD F z (.c s b) ρ = (denS GD F z s ρ).bind (goB GD F z b) := by
  simp only [denBl]; exact congrArg (R.bind _) (funext fun f => by cases f <;> rfl)
theorem denBl_e (GD : Nat → D) (F : Nat → Fn) (z : Bool) (ρ : Env) : denBl GD F z .e ρ = .ok (.nx ρ) := by simp only [denBl]
theorem goB_nx (GD : Nat → D) (F : Nat → Fn) (z : Bool) (b : CB) (ρ : Env) : goB GD F z b (.nx ρ) = denBl GD F z b ρ := rfl
theorem goB_rt (GD : Nat → D) (F : Nat → Fn) (z : Bool) (b : CB) (fr : Bool) (d : D) (ρ : Env) : goB GD F z b (.rt fr d ρ) = .ok (.rt fr d ρ) := rfl
theorem goB_ct (GD : Nat → D) (F : Nat → Fn) (z : Bool) (b : CB) (ρ : Env) : goB GD F z b (.ct ρ) = .ok (.ct ρ) := rfl
theorem goB_bk (GD : Nat → D) (F : Nat → Fn) (z : Bool) (b : CB) (ρ : Env) : goB GD F z b (.bk ρ) = .ok (.bk ρ) := rfl

/-! ### loops -/
def goF (turn : D → Env → R FR) (ds : List D) : FR → R FR
  | .nx ρ' => forLoop turn ds ρ'
  | .ct ρ' => forLoop turn ds ρ'
  | .bk ρ' => .ok (.nx ρ')
  | .rt fr d ρ' => .ok (.rt fr d ρ')
theorem forLoop_c (turn : D → Env → R FR) (d : D) (ds : List D) (ρ : Env) : forLoop turn (d :: ds) ρ = (turn d ρ).bind (goF turn ds) := by
  simp only [forLoop]; exact congrArg (R.bind _) (funext fun f => by cases f <;> rfl)
theorem forLoop_nil (turn : D → Env → R FR) (ρ : Env) : forLoop turn [] ρ = .ok (.nx ρ) := rfl

/-- each turn goes on -/
theorem for_fold {S : Type} (env : S → Env) (st : S → D → S) (turn : D → Env → R FR) (ds : List D) (s : S)
    (h : ∀ s d, d ∈ ds → turn d (env s) = .ok (.nx (env (st s d))) ∨ turn d (env s) = .ok (.ct (env (st s d)))) :
    forLoop turn ds (env s) = .ok (.nx (env (ds.foldl st s))) := by
  induction ds generalizing s with
  | nil => rfl
  | cons d ds ih =>
    rw [forLoop_c]
    rcases h s d (List.mem_cons_self ..) with h' | h'
    · rw [h']; exact ih _ fun s d hd => h s d (List.mem_cons_of_mem _ hd)
    · rw [h']; exact ih _ fun s d hd => h s d (List.mem_cons_of_mem _ hd)

/-- each turn goes on and keeps what holds -/
theorem for_inv (I : Env → Prop) (turn : D → Env → R FR) (ds : List D) (ρ : Env) (h0 : I ρ)
    (h : ∀ d ρ, d ∈ ds → I ρ → ∃ ρ', (turn d ρ = .ok (.nx ρ') ∨ turn d ρ = .ok (.ct ρ')) ∧ I ρ') :
    ∃ ρ', forLoop turn ds ρ = .ok (.nx ρ') ∧ I ρ' := by
  induction ds generalizing ρ with
  | nil => exact ⟨ρ, rfl, h0⟩
  | cons d ds ih =>
    obtain ⟨ρ1, h1, h2⟩ := h d ρ (List.mem_cons_self ..) h0
    obtain ⟨ρ2, h3, h4⟩ := ih ρ1 h2 fun d ρ hd => h d ρ (List.mem_cons_of_mem _ hd)
    refine ⟨ρ2, ?_, h4⟩
    rw [forLoop_c]
    rcases h1 with h1 | h1 <;> (rw [h1]; exact h3)

/-- the k-th turn -/
theorem for_ix (I : Nat → Env → Prop) (turn : D → Env → R FR) (ds : List D) (ρ : Env) (h0 : I 0 ρ)
    (h : ∀ k ρ (hk : k < ds.length), I k ρ → ∃ ρ', (turn ds[k] ρ = .ok (.nx ρ') ∨ turn ds[k] ρ = .ok (.ct ρ')) ∧ I (k + 1) ρ') :
    ∃ ρ', forLoop turn ds ρ = .ok (.nx ρ') ∧ I ds.length ρ' := by
  induction ds generalizing ρ I with
  | nil => exact ⟨ρ, rfl, h0⟩
  | cons d ds ih =>
    obtain ⟨ρ1, h1, h2⟩ := h 0 ρ (Nat.zero_lt_succ _) h0
    obtain ⟨ρ2, h3, h4⟩ := ih (fun k ρ => I (k + 1) ρ) ρ1 h2 fun k ρ hk hI => h (k + 1) ρ (Nat.succ_lt_succ hk) hI
    refine ⟨ρ2, ?_, h4⟩
    rw [forLoop_c]
    rcases h1 with h1 | h1 <;> (simp only [List.getElem_cons_zero] at h1; rw [h1]; exact h3)

/-- the state's turns until the test fails -/
def wl {S : Type} (go : S → Bool) (nxt : S → S) : Nat → S → S
  | 0, s => s
  | n + 1, s => if go s then wl go nxt n (nxt s) else s
def goW (c : Env → R (Bool × Env)) (turn : Env → R FR) (n : Nat) : FR → R FR
  | .nx ρ' => whlLoop c turn n ρ'
  | .ct ρ' => whlLoop c turn n ρ'
  | .bk ρ' => .ok (.nx ρ')
  | .rt fr d ρ' => .ok (.rt fr d ρ')
theorem whl_c (c : Env → R (Bool × Env)) (turn : Env → R FR) (n : Nat) (ρ : Env) : whlLoop c turn (n + 1) ρ =
    (c ρ).bind fun x => if x.1 then (turn x.2).bind (goW c turn n) else .ok (.nx x.2) := by
  simp only [whlLoop]; refine congrArg (R.bind _) (funext fun x => ?_); cases x.1
  · rfl
  · exact congrArg (R.bind _) (funext fun f => by cases f <;> rfl)

/-- a while over states: P holds, the measure falls -/
theorem whl_wl {S : Type} (env : S → Env) (P : S → Prop) (go : S → Bool) (nxt : S → S) (mes : S → Nat)
    (c : Env → R (Bool × Env)) (turn : Env → R FR)
    (hc : ∀ s, P s → c (env s) = .ok (go s, env s))
    (ht : ∀ s, P s → go s = true → turn (env s) = .ok (.nx (env (nxt s))) ∧ P (nxt s) ∧ mes (nxt s) < mes s) :
    ∀ (m n : Nat) (s : S), P s → mes s ≤ m → m < n → whlLoop c turn n (env s) = .ok (.nx (env (wl go nxt m s))) ∧ P (wl go nxt m s) ∧ go (wl go nxt m s) = false := by
  intro m
  induction m with
  | zero =>
    intro n s hP hm hn
    obtain ⟨n, rfl⟩ : ∃ k, n = k + 1 := ⟨n - 1, by omega⟩
    rw [whl_c, hc s hP]
    cases hg : go s with
    | false => exact ⟨by simp only [R.bind_ok, Bool.false_eq_true, if_false, wl], hP, hg⟩
    | true => obtain ⟨_, _, h3⟩ := ht s hP hg; omega
  | succ m ih =>
    intro n s hP hm hn
    obtain ⟨n, rfl⟩ : ∃ k, n = k + 1 := ⟨n - 1, by omega⟩
    rw [whl_c, hc s hP]
    cases hg : go s with
    | false => exact ⟨by simp only [R.bind_ok, Bool.false_eq_true, if_false, wl, hg], by simp only [wl, hg, Bool.false_eq_true, if_false]; exact hP, by simp only [wl, hg, Bool.false_eq_true, if_false]⟩
    | true =>
      obtain ⟨h1, h2, h3⟩ := ht s hP hg
      obtain ⟨h4, h5, h6⟩ := ih n (nxt s) h2 (by omega) (by omega)
      simp only [R.bind_ok, if_true, wl, hg, h1]
      exact ⟨h4, h5, h6⟩

/-! ### comprehensions -/
theorem filterMap_congr' {α β : Type} (f g : α → Option β) (xs : List α) (h : ∀ x ∈ xs, f x = g x) : xs.filterMap f = xs.filterMap g := by
  induction xs with
  | nil => rfl
  | cons a r ih =>
    rw [List.filterMap_cons, List.filterMap_cons, h a (List.mem_cons_self ..), ih fun x hx => h x (List.mem_cons_of_mem _ hx)]

theorem lcLoop_fm (I : Env → Prop) (g : D → Option D) (turn : D → Env → R (Option D × Env)) (ds : List D)
    (h : ∀ d ρ, d ∈ ds → I ρ → ∃ ρ', turn d ρ = .ok (g d, ρ') ∧ I ρ') (ρ : Env) (acc : List D) (h0 : I ρ) :
    ∃ ρ', lcLoop turn ds ρ acc = .ok (acc ++ ds.filterMap g, ρ') ∧ I ρ' := by
  induction ds generalizing ρ acc with
  | nil => exact ⟨ρ, by simp [lcLoop], h0⟩
  | cons d ds ih =>
    obtain ⟨ρ1, h1, h2⟩ := h d ρ (List.mem_cons_self ..) h0
    simp only [lcLoop, h1, R.bind_ok]
    cases hg : g d with
    | none =>
      obtain ⟨ρ2, h3, h4⟩ := ih (fun d ρ hd => h d ρ (List.mem_cons_of_mem _ hd)) ρ1 acc h2
      exact ⟨ρ2, by simp only [h3, List.filterMap_cons, hg], h4⟩
    | some y =>
      obtain ⟨ρ2, h3, h4⟩ := ih (fun d ρ hd => h d ρ (List.mem_cons_of_mem _ hd)) ρ1 (acc ++ [y]) h2
      exact ⟨ρ2, by simp only [h3, List.filterMap_cons, hg, List.append_assoc, List.singleton_append], h4⟩

/-- wiped slots, put back -/
theorem u_unwipe_len (ρ₀ ρ : Env) (own : List Nat) : (unwipe ρ₀ ρ own).length = ρ.length := by
  induction own with
  | nil => rfl
  | cons v vs ih => simp only [unwipe, List.length_set, ih]
theorem u_wipe_len (ρ : Env) (own : List Nat) : (wipe ρ own).length = ρ.length := by
  induction own with
  | nil => rfl
  | cons v vs ih => simp only [wipe, List.length_set, ih]
theorem u_unwipe_get (ρ₀ ρ : Env) (own : List Nat) (i : Nat) (hi : i < ρ.length) : (unwipe ρ₀ ρ own)[i]? = if i ∈ own then some (ρ₀[i]?.getD none) else ρ[i]? := by
  induction own with
  | nil => simp [unwipe]
  | cons v vs ih =>
    simp only [unwipe, List.getElem?_set, u_unwipe_len]
    by_cases hv : v = i
    · subst hv; simp [hi]
    · rw [if_neg hv, ih]; simp [List.mem_cons, eq_comm, hv]
      have : ¬ i = v := fun h => hv h.symm
      simp [this]
theorem u_wipe_get (ρ : Env) (own : List Nat) (i : Nat) (hi : i < ρ.length) : (wipe ρ own)[i]? = if i ∈ own then some none else ρ[i]? := by
  induction own with
  | nil => simp [wipe]
  | cons v vs ih =>
    simp only [wipe, List.getElem?_set, u_wipe_len]
    by_cases hv : v = i
    · subst hv; simp [hi]
    · rw [if_neg hv, ih]
      have : ¬ i = v := fun h => hv h.symm
      simp [List.mem_cons, this]
theorem unwipe_back (ρ₀ ρ : Env) (own : List Nat) (h : wipe ρ own = wipe ρ₀ own) : unwipe ρ₀ ρ own = ρ₀ := by
  have hl : ρ.length = ρ₀.length := by rw [← u_wipe_len ρ own, h, u_wipe_len]
  apply List.ext_getElem?
  intro i
  by_cases hi : i < ρ.length
  · rw [u_unwipe_get _ _ _ _ hi]
    split
    · rw [List.getElem?_eq_getElem (by omega : i < ρ₀.length)]; rfl
    · rename_i hn
      have h1 := u_wipe_get ρ own i hi
      have h2 := u_wipe_get ρ₀ own i (by omega)
      rw [if_neg hn] at h1 h2
      rw [← h1, ← h2, h]
  · rw [List.getElem?_eq_none (by rw [u_unwipe_len]; omega), List.getElem?_eq_none (by omega)]
theorem wipe_wipe (ρ : Env) (own : List Nat) : wipe (wipe ρ own) own = wipe ρ own := by
  apply List.ext_getElem?
  intro i
  by_cases hi : i < ρ.length
  · rw [u_wipe_get _ _ _ (by rw [u_wipe_len]; exact hi), u_wipe_get _ _ _ hi]; split <;> rfl
  · rw [List.getElem?_eq_none (by rw [u_wipe_len, u_wipe_len]; omega), List.getElem?_eq_none (by rw [u_wipe_len]; omega)]

/-- what one turn of a comprehension does -/
def lcT (GD : Nat → D) (F : Nat → Fn) (t : TG) (c : CO) (e : CE) (d : D) (ρ : Env) : R (Option D × Env) :=
  (R.of (bindT t d ρ)).bind fun ρ₂ => (denT GD F c ρ₂).bind fun b =>
      if b.1 then (den GD F e b.2).bind fun y => (R.of (fz y.2 y.1)).bind fun z => .ok (some z.1, z.2) else .ok (none, b.2)
theorem lc_fm (GD : Nat → D) (F : Nat → Fn) (own : List Nat) (t : TG) (s : CI) (c : CO) (e : CE) (ρ ρ1 : Env) (items : List D) (g : D → Option D)
    (hs : denI GD F own s ρ = .ok (items, ρ1)) (hl : items.length ≤ line)
    (h : ∀ d ∈ items, ∃ ρ', lcT GD F t c e d (wipe ρ1 own) = .ok (g d, ρ') ∧ wipe ρ' own = wipe ρ1 own) :
    den GD F (.lc own t s c e) ρ = .ok (.tmp (.lst (items.filterMap g)), ρ1) := by
  simp only [den, hs, R.bind_ok, if_pos hl]
  obtain ⟨ρ2, h3, h4⟩ := lcLoop_fm (fun ρ => wipe ρ own = wipe ρ1 own) g (fun d ρ₁ => lcT GD F t c e d (wipe ρ₁ own)) items
    (fun d ρ hd hI => by rw [hI]; exact h d hd) (wipe ρ1 own) [] (wipe_wipe _ _)
  simp only [lcT] at h3
  rw [h3]
  simp only [R.bind_ok, R.calm_ok, List.nil_append, unwipe_back _ _ _ h4]

def lcS (GD : Nat → D) (F : Nat → Fn) (own : List Nat) (t : TG) (c : CO) (e : CE) (items : List D) (ρ1 : Env) : R (RV × Env) :=
  if items.length ≤ line then R.calm ((lcLoop (fun d ρ₁ => lcT GD F t c e d (wipe ρ₁ own)) items (wipe ρ1 own) []).bind fun r => .ok (.tmp (.lst r.1), unwipe ρ1 r.2 own)) else .bad
theorem den_lc (GD : Nat → D) (F : Nat → Fn) (own : List Nat) (t : TG) (s : CI) (c : CO) (e : CE) (ρ : Env) :
    den GD F (.lc own t s c e) ρ = (denI GD F own s ρ).bind fun x => lcS GD F own t c e x.1 x.2 := by
  simp only [den, lcS]; rfl
theorem lcS_fm (GD : Nat → D) (F : Nat → Fn) (own : List Nat) (t : TG) (c : CO) (e : CE) (ρ1 : Env) (items : List D) (g : D → Option D)
    (hl : items.length ≤ line)
    (h : ∀ d ∈ items, ∃ ρ', lcT GD F t c e d (wipe ρ1 own) = .ok (g d, ρ') ∧ wipe ρ' own = wipe ρ1 own) :
    lcS GD F own t c e items ρ1 = .ok (.tmp (.lst (items.filterMap g)), ρ1) := by
  obtain ⟨ρ2, h3, h4⟩ := lcLoop_fm (fun ρ => wipe ρ own = wipe ρ1 own) g (fun d ρ₁ => lcT GD F t c e d (wipe ρ₁ own)) items
    (fun d ρ hd hI => by rw [hI]; exact h d hd) (wipe ρ1 own) [] (wipe_wipe _ _)
  simp only [lcS, if_pos hl]
  rw [h3]
  simp only [R.bind_ok, R.calm_ok, List.nil_append, unwipe_back _ _ _ h4]
/-- what a turn gives, its slots out of sight -/
def GivesT (own : List Nat) (W : Env) (r : R (Option D × Env)) (y : Option D) : Prop := match r with
  | .ok x => x.1 = y ∧ wipe x.2 own = W
  | _ => False
theorem gives_ok (own : List Nat) (W : Env) (x : Option D × Env) (y : Option D) : GivesT own W (.ok x) y = (x.1 = y ∧ wipe x.2 own = W) := rfl
theorem lcS_fmG (GD : Nat → D) (F : Nat → Fn) (own : List Nat) (t : TG) (c : CO) (e : CE) (ρ1 : Env) (items : List D) (g : D → Option D)
    (hl : items.length ≤ line)
    (h : ∀ d ∈ items, GivesT own (wipe ρ1 own) (lcT GD F t c e d (wipe ρ1 own)) (g d)) :
    lcS GD F own t c e items ρ1 = .ok (.tmp (.lst (items.filterMap g)), ρ1) := by
  refine lcS_fm GD F own t c e ρ1 items g hl fun d hd => ?_
  have h' := h d hd
  cases hr : lcT GD F t c e d (wipe ρ1 own) with
  | ok x => rw [hr] at h'; exact ⟨x.2, by rw [← h'.1], h'.2⟩
  | exc c p => rw [hr] at h'; exact False.elim h'
  | bad => rw [hr] at h'; exact False.elim h'

/-- the tests of a generator expression -/
def genS (GD : Nat → D) (F : Nat → Fn) (e : CE) (i : Nat) (W : Env) (ds : List D) : R (List Bool) := genBs (fun d => testR (den GD F e (W.set i (some (.imm d))))) ds
theorem den_gen (GD : Nat → D) (F : Nat → Fn) (al : Bool) (fv : List Nat) (i : Nat) (s e : CE) (ρ : Env) : den GD F (.gen al fv i s e) ρ =
    (den GD F s ρ).bind fun x => (R.of (fz x.2 x.1)).bind fun z => if isDic z.1 then .bad else (R.of (itemsOf z.1)).bind fun ds =>
      (genS GD F e i (mask (fzAll z.2 fv)) ds).bind fun bs => .ok (.imm (.bl (if al then bs.all id else bs.any id)), fzAll z.2 fv) := by
  simp only [den, genS]
theorem genS_nil (GD : Nat → D) (F : Nat → Fn) (e : CE) (i : Nat) (W : Env) : genS GD F e i W [] = .ok [] := rfl
theorem genS_cons (GD : Nat → D) (F : Nat → Fn) (e : CE) (i : Nat) (W : Env) (d : D) (ds : List D) : genS GD F e i W (d :: ds) =
    if isDic d then .bad else (testR (den GD F e (W.set i (some (.imm d))))).bind fun b => (genS GD F e i W ds).bind fun r => .ok (b :: r) := rfl
theorem genS_map (GD : Nat → D) (F : Nat → Fn) (e : CE) (i : Nat) (W : Env) (f : D → Bool) (ds : List D) (h : ∀ d ∈ ds, isDic d = false ∧ testR (den GD F e (W.set i (some (.imm d)))) = .ok (f d)) :
    genS GD F e i W ds = .ok (ds.map f) := by
  induction ds with
  | nil => rfl
  | cons d ds ih =>
    obtain ⟨h1, h2⟩ := h d (List.mem_cons_self ..)
    rw [genS_cons, h1, h2, ih fun d hd => h d (List.mem_cons_of_mem _ hd)]
    rfl

/-- a for's turn -/
def forT (GD : Nat → D) (F : Nat → Fn) (z : Bool) (t : TG) (b : CB) (d : D) (ρ : Env) : R FR := (R.of (bindT t d ρ)).bind fun ρ₂ => denBl GD F z b ρ₂
theorem forT_c (GD : Nat → D) (F : Nat → Fn) (z : Bool) (t : TG) (s : CS) (b : CB) (d : D) (ρ : Env) :
    forT GD F z t (.c s b) d ρ = (R.of (bindT t d ρ)).bind fun ρ₂ => (denS GD F z s ρ₂).bind (goB GD F z b) := by
  simp only [forT, denBl_c]
theorem denS_for0 (GD : Nat → D) (F : Nat → Fn) (t : TG) (s : CI) (b : CB) (ρ : Env) :
    denS GD F false (.for_ t s b) ρ = (denI GD F [] s ρ).bind fun x => forLoop (forT GD F false t b) x.1 x.2 := by
  simp only [denS]; rfl
def whlS (GD : Nat → D) (F : Nat → Fn) (z : Bool) (c : CE) (b : CB) (ρ : Env) : R FR := whlLoop (denB GD F c) (denBl GD F z b) most ρ
theorem denS_whl (GD : Nat → D) (F : Nat → Fn) (z : Bool) (c : CE) (b : CB) (ρ : Env) : denS GD F z (.whl c b) ρ = whlS GD F z c b ρ := by
  simp only [denS, whlS]

/-! ### ranges -/
theorem rng_len (a b : Int) : (rng a b 1).length = (b - a).toNat := by simp [rng]
theorem rng_nil (a b : Int) (h : b ≤ a) : rng a b 1 = [] := by
  apply List.eq_nil_of_length_eq_zero; rw [rng_len]; omega
theorem rng_map (a b : Int) : rng a b 1 = (List.range (b - a).toNat).map fun (k : Nat) => D.int (a + k) := by simp [rng]
theorem rng_get (a b : Int) (k : Nat) (h : k < (rng a b 1).length) : (rng a b 1)[k] = .int (a + k) := by simp [rng]
theorem rng_mem (a b : Int) (d : D) : d ∈ rng a b 1 ↔ ∃ k : Int, a ≤ k ∧ k < b ∧ d = .int k := by
  rw [rng_map, List.mem_map]
  constructor
  · rintro ⟨k, hk, rfl⟩
    rw [List.mem_range] at hk
    exact ⟨a + k, by omega, by omega, rfl⟩
  · rintro ⟨k, h1, h2, rfl⟩
    exact ⟨(k - a).toNat, by rw [List.mem_range]; omega, by congr 1; omega⟩
/-- a for over a range -/
theorem for_range (turn : D → Env → R FR) (a b : Int) (I : Int → Env → Prop) (ρ : Env) (hab : a ≤ b) (h0 : I a ρ)
    (h : ∀ k ρ, a ≤ k → k < b → I k ρ → ∃ ρ', (turn (.int k) ρ = .ok (.nx ρ') ∨ turn (.int k) ρ = .ok (.ct ρ')) ∧ I (k + 1) ρ') :
    ∃ ρ', forLoop turn (rng a b 1) ρ = .ok (.nx ρ') ∧ I b ρ' := by
  obtain ⟨ρ', h1, h2⟩ := for_ix (fun k ρ => I (a + (k : Int)) ρ) turn (rng a b 1) ρ (by simpa using h0) (by
    intro k ρ hk hI
    have hk' := hk
    rw [rng_len] at hk'
    rw [rng_get]
    obtain ⟨ρ', h1, h2⟩ := h (a + k) ρ (by omega) (by omega) hI
    exact ⟨ρ', h1, by push_cast; rw [← Int.add_assoc]; exact h2⟩)
  refine ⟨ρ', h1, ?_⟩
  rw [rng_len] at h2
  have e : a + ((b - a).toNat : Int) = b := by omega
  rw [e] at h2
  exact h2

/-- the turn goes on, and I holds -/
def Goes (r : R FR) (I : Env → Prop) : Prop := match r with
  | .ok (.nx ρ) => I ρ
  | .ok (.ct ρ) => I ρ
  | _ => False
theorem goes_nx (ρ : Env) (I : Env → Prop) : Goes (.ok (.nx ρ)) I = I ρ := rfl
theorem goes_ct (ρ : Env) (I : Env → Prop) : Goes (.ok (.ct ρ)) I = I ρ := rfl
theorem goes_ex {r : R FR} {I : Env → Prop} (h : Goes r I) : ∃ ρ', (r = .ok (.nx ρ') ∨ r = .ok (.ct ρ')) ∧ I ρ' := by
  cases r with
  | ok a => cases a with
    | nx ρ => exact ⟨ρ, Or.inl rfl, h⟩
    | ct ρ => exact ⟨ρ, Or.inr rfl, h⟩
    | bk ρ => exact False.elim h
    | rt fr d ρ => exact False.elim h
  | exc c p => exact False.elim h
  | bad => exact False.elim h
theorem for_rangeG (turn : D → Env → R FR) (a b : Int) (I : Int → Env → Prop) (ρ : Env) (hab : a ≤ b) (h0 : I a ρ)
    (h : ∀ k ρ, a ≤ k → k < b → I k ρ → Goes (turn (.int k) ρ) (I (k + 1))) :
    ∃ ρ', forLoop turn (rng a b 1) ρ = .ok (.nx ρ') ∧ I b ρ' := for_range turn a b I ρ hab h0 fun k ρ h1 h2 h3 => goes_ex (h k ρ h1 h2 h3)
theorem for_invG (I : Env → Prop) (turn : D → Env → R FR) (ds : List D) (ρ : Env) (h0 : I ρ)
    (h : ∀ d ρ, d ∈ ds → I ρ → Goes (turn d ρ) I) :
    ∃ ρ', forLoop turn ds ρ = .ok (.nx ρ') ∧ I ρ' := for_inv I turn ds ρ h0 fun d ρ h1 h2 => goes_ex (h d ρ h1 h2)
theorem for_ixG (I : Nat → Env → Prop) (turn : D → Env → R FR) (ds : List D) (ρ : Env) (h0 : I 0 ρ)
    (h : ∀ k ρ (hk : k < ds.length), I k ρ → Goes (turn ds[k] ρ) (I (k + 1))) :
    ∃ ρ', forLoop turn ds ρ = .ok (.nx ρ') ∧ I ds.length ρ' := for_ix I turn ds ρ h0 fun k ρ h1 h2 => goes_ex (h k ρ h1 h2)

/-! ### places -/
theorem atI_nn {α : Type} (xs : List α) (i : Int) (h0 : 0 ≤ i) (h1 : i < xs.length) : atI xs i = some (xs[i.toNat]'(by omega)) := by
  rw [atI, ixN, if_pos h0, if_pos h1]; exact List.getElem?_eq_getElem (by omega)
theorem atI_last {α : Type} (xs : List α) (h : xs ≠ []) : atI xs (-1) = some (xs.getLast h) := by
  have hp : 0 < xs.length := List.length_pos_iff.mpr h
  rw [atI, ixN, if_neg (by omega), if_pos (by omega)]
  show xs[(-1 + (xs.length : Int)).toNat]? = _
  have e : (-1 + (xs.length : Int)).toNat = xs.length - 1 := by omega
  rw [e, List.getElem?_eq_getElem (by omega), List.getLast_eq_getElem]
theorem atI_last_snoc {α : Type} (xs : List α) (a : α) : atI (xs ++ [a]) (-1) = some a := by
  rw [atI_last _ (by simp)]; simp

/-! ### ranges, as ints -/
def irange (a b : Int) : List Int := (List.range (b - a).toNat).map fun (k : Nat) => a + k
theorem rng_ir (a b : Int) : rng a b 1 = (irange a b).map .int := by rw [rng_map, irange, List.map_map]; rfl
theorem ir_mem (a b k : Int) : k ∈ irange a b ↔ a ≤ k ∧ k < b := by
  rw [irange, List.mem_map]
  constructor
  · rintro ⟨j, hj, rfl⟩; rw [List.mem_range] at hj; omega
  · rintro ⟨h1, h2⟩; exact ⟨(k - a).toNat, by rw [List.mem_range]; omega, by omega⟩
theorem ir_len (a b : Int) : (irange a b).length = (b - a).toNat := by simp [irange]
theorem lc_rngM (GD : Nat → D) (F : Nat → Fn) (own : List Nat) (t : TG) (c : CO) (e : CE) (ρ1 : Env) (a b : Int) (f : Int → D)
    (hl : b - a ≤ 16777216)
    (h : ∀ k, a ≤ k → k < b → GivesT own (wipe ρ1 own) (lcT GD F t c e (.int k) (wipe ρ1 own)) (some (f k))) :
    lcS GD F own t c e (rng a b 1) ρ1 = .ok (.tmp (.lst ((irange a b).map f)), ρ1) := by
  rw [lcS_fmG GD F own t c e ρ1 (rng a b 1) (fun d => match d with
    | .int k => some (f k)
    | _ => none) (by rw [rng_len]; unfold line; omega) ?_]
  · rw [rng_ir, List.filterMap_map]
    congr 3
    exact (List.filterMap_eq_map (f := f) ▸ rfl)
  · intro d hd
    obtain ⟨k, h1, h2, rfl⟩ := (rng_mem _ _ _).mp hd
    exact h k h1 h2
theorem fm_ite (p : Int → Bool) (f : Int → D) (xs : List Int) : (xs.filter p).map f = xs.filterMap fun x => if p x then some (f x) else none := by
  induction xs with
  | nil => rfl
  | cons x r ih =>
    rw [List.filterMap_cons, List.filter_cons]
    by_cases hx : p x = true
    · simp only [hx, if_true, List.map_cons, ih]
    · simp only [hx, if_false, ih, Bool.false_eq_true]
theorem lc_rngF (GD : Nat → D) (F : Nat → Fn) (own : List Nat) (t : TG) (c : CO) (e : CE) (ρ1 : Env) (a b : Int) (p : Int → Bool) (f : Int → D)
    (hl : b - a ≤ 16777216)
    (h : ∀ k, a ≤ k → k < b → GivesT own (wipe ρ1 own) (lcT GD F t c e (.int k) (wipe ρ1 own)) (if p k then some (f k) else none)) :
    lcS GD F own t c e (rng a b 1) ρ1 = .ok (.tmp (.lst (((irange a b).filter p).map f)), ρ1) := by
  rw [lcS_fmG GD F own t c e ρ1 (rng a b 1) (fun d => match d with
    | .int k => if p k then some (f k) else none
    | _ => none) (by rw [rng_len]; unfold line; omega) ?_]
  · rw [rng_ir, List.filterMap_map, fm_ite]; rfl
  · intro d hd
    obtain ⟨k, h1, h2, rfl⟩ := (rng_mem _ _ _).mp hd
    exact h k h1 h2

theorem natAbs_lit (n : Nat) : (no_index (OfNat.ofNat n) : Int).natAbs = n := rfl
theorem cast_lit (n : Nat) : ((no_index (OfNat.ofNat n) : Nat) : Int) = (OfNat.ofNat n : Int) := rfl
/-- an error told -/
abbrev NONE : D := .tup [.str [33], .str [110, 111, 110, 101]]
theorem eqOk_NONE : eqOk NONE NONE = true := by simp [eqOk, eqOk0, D.dep, D.depL]
theorem eqv_NONE : D.eqv NONE NONE = true := by simp [D.eqv, D.eqvL]
theorem rep_1 {α : Type} (x : List α) : rep 1 x = x := by simp [rep]
theorem rep_2 {α : Type} (x : List α) : rep 2 x = x ++ x := by simp [rep, List.replicate]
theorem rep_3 {α : Type} (x : List α) : rep 3 x = x ++ (x ++ x) := by simp [rep, List.replicate]
theorem eqv_int (x y : Int) : D.eqv (.int x) (.int y) = (x == y) := by simp [D.eqv]
theorem eqv_bl (x y : Bool) : D.eqv (.bl x) (.bl y) = (x == y) := by simp [D.eqv]
theorem eqv_str2 (x y : List Nat) : D.eqv (.str x) (.str y) = (x == y) := by simp [D.eqv]
theorem dep_str (x : List Nat) : D.dep (.str x) = 0 := by simp [D.dep]
theorem dep_int (x : Int) : D.dep (.int x) = 0 := by simp [D.dep]
theorem dep_bl (x : Bool) : D.dep (.bl x) = 0 := by simp [D.dep]
theorem dep_non : D.dep .non = 0 := by simp [D.dep]
theorem eqOk_int (x y : Int) : eqOk (.int x) (.int y) = true := by simp [eqOk, eqOk0, D.dep]
theorem eqOk_str (x y : List Nat) : eqOk (.str x) (.str y) = true := by simp [eqOk, eqOk0, D.dep]

/-! ### conditions, as results -/
theorem ok_if {α : Type} (c : Prop) [Decidable c] (a b : α) : (if c then R.ok a else R.ok b) = R.ok (if c then a else b) := by split <;> rfl

end Kn

end

section
/-! K, the functions that every law has -/
namespace Kn
section
variable (GD : Nat → D)

def cfNext : CF := ⟨4, 2, true, (.c (.set 2 (.ix (.v 0) (.k (.str [97, 116]))))
  (.c (.sti 0 (.k (.str [97, 116])) (.bin .add (.v 2) (.k (.int 1))))
  (.c (.set 3 (.ix (.ix (.v 0) (.k (.str [114, 111, 119]))) (.bin .mod (.v 2) (.bi .len (.cons (.ix (.v 0) (.k (.str [114, 111, 119]))) .nil)))))
  (.c (.ret (.bin .mod (.bi .int (.cons (.bin .add (.v 3) (.bin .mul (.k (.int 7919)) (.bin .fdiv (.v 2) (.bi .len (.cons (.ix (.v 0) (.k (.str [114, 111, 119]))) .nil))))) .nil)) (.v 1)))
  .e))))⟩

/-- the law's box -/
structure Bx where
  row : List Int
  cnt : Nat
  ne : 0 < row.length
  le : row.length ≤ 1000000
def Bx.d (b : Bx) : D := .dic [.str [114, 111, 119], .str [97, 116]] [.lst (b.row.map .int), .int b.cnt]
def Bx.nx (b : Bx) : Bx := { b with cnt := b.cnt + 1 }
def Bx.v (b : Bx) (m : Int) : Int := (b.row[b.cnt % b.row.length]'(Nat.mod_lt _ b.ne) + 7919 * ((b.cnt : Int) / (b.row.length : Int))).emod m
theorem Bx.v_nn (b : Bx) (m : Int) (h : 0 < m) : 0 ≤ b.v m := Int.emod_nonneg _ (by omega)
theorem Bx.v_lt (b : Bx) (m : Int) (h : 0 < m) : b.v m < m := Int.emod_lt_of_pos _ h

def goR (io : Bool) : FR → R ((Bool × D) × D)
  | .nx ρ => (R.of (endE io ρ)).bind fun b => .ok ((false, .non), b)
  | .rt fr d ρ => (R.of (endE io ρ)).bind fun b => .ok ((fr, d), b)
  | _ => .bad
theorem runF_def (F : Nat → Fn) (f : CF) (ds : List D) (h : ds.length = f.ps ∧ f.ps ≤ f.n) : runF GD F f ds = (denBl GD F f.io f.body (startE f.io f.n ds)).bind (goR f.io) := by
  unfold runF; rw [if_pos h]; exact congrArg (R.bind _) (funext fun r => by cases r <;> rfl)

theorem run_s {defs : List CF} {i : Nat} {f : CF} (h : defs[i]? = some f) (l : Nat) : run GD defs (l + 1) i = runF GD (run GD defs l) f := by
  simp -implicitDefEqProofs only [run, h]

theorem next_F (F : Nat → Fn) (b : Bx) (m : Int) (h : 0 < m) : runF GD F cfNext [b.d, .int m] = .ok ((false, .int (b.v m)), b.nx.d) := by
  have h1 : ixN (b.row.map D.int).length ((b.cnt : Int).fmod ((b.row.map D.int).length : Nat)) = some (b.cnt % b.row.length) := by
    have hp := b.ne
    rw [List.length_map, Int.fmod_eq_emod_of_nonneg _ (by omega)]
    have e : ((b.cnt : Int) % (b.row.length : Int)) = ((b.cnt % b.row.length : Nat) : Int) := by simp
    have := Nat.mod_lt b.cnt hp
    rw [e, ixN, if_pos (by omega), if_pos (by omega), Int.toNat_natCast]
  have h2 : (b.row.map D.int)[b.cnt % b.row.length]? = some (.int (b.row[b.cnt % b.row.length]'(Nat.mod_lt _ b.ne))) := by
    rw [List.getElem?_map, List.getElem?_eq_getElem (Nat.mod_lt _ b.ne)]; rfl
  have h3 : ¬ (((b.row.map D.int).length : Nat) : Int) = 0 := by have := b.ne; rw [List.length_map]; omega
  have h4 : (b.row.map D.int).length < 1073741824 := by have := b.le; simp -implicitDefEqProofs only [List.length_map]; omega
  have h5 : (b.cnt : Int).fdiv ((b.row.map D.int).length : Nat) = (b.cnt : Int) / (b.row.length : Int) := by
    rw [List.length_map, Int.fdiv_eq_ediv_of_nonneg _ (by omega)]
  rw [runF_def _ _ _ _ ⟨rfl, by decide⟩]
  have h6 : atI (b.row.map D.int) ((b.cnt : Int).fmod ((b.row.map D.int).length : Nat)) = some (.int (b.row[b.cnt % b.row.length]'(Nat.mod_lt _ b.ne))) := by
    rw [atI, h1]; exact h2
  have h7 : sm64 7919 = true := by decide
  have h8 : ¬ m = 0 := by omega
  simp -implicitDefEqProofs only [cfNext, startE, Bx.d, List.replicate, List.cons_append, List.nil_append, h6, h3, h4, h5, h7, h8, not_false_eq_true, ne_eq, den.eq_1, den.eq_2, den.eq_3, den.eq_4, den.eq_5, den.eq_6, den.eq_7, den.eq_8, den.eq_9, den.eq_10, den.eq_11, den.eq_12, den.eq_13, den.eq_14, den.eq_15, den.eq_16, den.eq_17, den.eq_18, den.eq_19, den.eq_20, den.eq_21, den.eq_22, den.eq_23, den.eq_24, den.eq_25, den.eq_26, den.eq_27, den.eq_33, den.eq_34, denB, denF, denR, denL, denD, denI, denT, denO, denS.eq_1, denS.eq_2, denS.eq_3, denS.eq_4, denS.eq_5, denS.eq_6, denS.eq_7, denS.eq_8, denS.eq_11, denS.eq_12, denS.eq_13, denS.eq_14, denS.eq_15, denS.eq_16, denS.eq_17, denBl_c, denBl_e, goB_nx, goB_rt, goB_ct, goB_bk, goF, ↓R.bind_bnd, R.bnd_ok, R.bnd_exc, R.bnd_bad, R.of_some, R.calm_ok, hvI, hvT, hvS, rd, rdH, fz, fzH, res, resAll, setV, setVs, bindT.eq_1, bindT.eq_2, bindTs.eq_1, bindTs.eq_2, wipe, Lit.d, List.getElem?_cons_zero, List.getElem?_cons_succ, List.set_cons_zero, List.set_cons_succ, binop, augop, cmpop, truth, indexD, biop, if_true, if_false, Bool.false_eq_true, Bool.true_and, Bool.and_true, Bool.false_and, Bool.and_false, List.length_cons, List.length_nil, Option.bind_some, Option.map_some, decide_true, decide_false, decide_eq_true_eq, Bool.not_true, Bool.not_false, Bool.or_false, Bool.false_or, Bool.or_true, Bool.true_or, reduceIte, beq_iff_eq, look, isKey_ss, isKey_ii, dkeys_s, dkeys_i, dkey0_s, dkey0_i, List.all_cons, List.all_nil, List.any_cons, List.any_nil, putD, hasKey_c, hasKey_n, putVs, List.cons_beq_cons, BEq.rfl, beq_self_eq_true, goR, endE, List.map_cons, List.map_nil, Nat.reduceBEq, Nat.reduceLeDiff, Nat.reduceEqDiff, Nat.reduceAdd, Nat.reduceMul, Nat.reduceLT, Nat.reduceSub, Int.reduceLT, Int.reduceLE, Int.reduceNeg, Int.reduceMul, Int.reduceAdd, Int.reduceSub, Int.reduceEq, Int.reduceBEq, Int.reduceNe, reduceCtorEq, Int.reduceToNat, Int.natAbs_natCast, Bool.or_self, Bool.and_self, line_lit, bne_self_eq_false, Bool.bne_true, Bool.bne_false, Int.reducePow, sm64_eq, smB_eq, isTy, isiOk, isLit, denS_for0, denS_whl, den_lc, mask, fzAll, toldEx, rep_1, rep_2, rep_3, eqOk_NONE, eqv_NONE, dep_int, dep_bl, dep_str, dep_non, eqv_int, eqv_bl, eqv_str2, eqOk_int, eqOk_str, natAbs_lit, List.contains_nil, den_gen, genS_nil, genS_cons, testR, isDic, itemsOf, List.all_cons, List.any_cons, id_eq, cast_lit, List.contains_cons, goes_nx, gives_ok, goes_ct, and_self, decide_not, not_false_eq_true, ne_eq]
  rw [Int.fmod_eq_emod_of_nonneg _ (by omega)]; rfl

/-! ### the same? -/
def cfIs (i : Nat) : CF := ⟨4, 2, false, (.c (.iff (.tr (.isi [.list, .tuple] (.v 1)))
  (.c (.set 2 (.ite (.tr (.isi [.list] (.v 1))) (.isi [.list] (.v 0)) (.isi [.tuple] (.v 0))))
  (.c (.ret (.and (.v 2) (.and (.cmp .eq (.bi .len (.cons (.v 0) .nil)) (.bi .len (.cons (.v 1) .nil))) (.bi .all (.cons (.lc [3] (.n 3) (.r1 (.bi .len (.cons (.v 1) .nil))) .no (.call i (.cons (.ix (.v 0) (.v 3)) (.cons (.ix (.v 1) (.v 3)) .nil)))) .nil)))))
  .e))
  .e)
  (.c (.iff (.tr (.isi [.dict] (.v 1)))
  (.c (.ret (.and (.isi [.dict] (.v 0)) (.call i (.cons .un (.cons .un .nil)))))
  .e)
  .e)
  (.c (.iff (.isl false .non (.v 1))
  (.c (.ret (.isl false .non (.v 0)))
  .e)
  .e)
  (.c (.iff (.tr (.isi [.bool] (.v 1)))
  (.c (.ret (.and (.isi [.bool] (.v 0)) (.cmp .eq (.v 0) (.v 1))))
  .e)
  .e)
  (.c (.iff (.tr (.isi [.int] (.v 1)))
  (.c (.ret (.and (.isi [.int] (.v 0)) (.and (.nt (.isi [.bool] (.v 0))) (.cmp .eq (.v 0) (.v 1)))))
  .e)
  .e)
  (.c (.ret (.and (.isi [.str] (.v 0)) (.cmp .eq (.v 0) (.v 1))))
  .e))))))⟩

/-- plain data, of some depth -/
def Plain : Nat → D → Prop
  | n + 1, .lst xs => xs.length ≤ line ∧ ∀ x ∈ xs, Plain n x
  | n + 1, .tup xs => xs.length ≤ line ∧ ∀ x ∈ xs, Plain n x
  | _, .non => True
  | _, .bl _ => True
  | _, .int _ => True
  | _, .str _ => True
  | _, _ => False

theorem allBl_rep (n : Nat) : allBl (List.replicate n (.bl true)) = some (List.replicate n true) := by
  induction n with
  | zero => rfl
  | succ n ih => rw [List.replicate_succ, allBl, ih]; rfl
theorem all_rep (n : Nat) : (List.replicate n true).all id = true := by
  rw [List.all_eq_true]; intro x hx; rw [List.eq_of_mem_replicate hx]; rfl
theorem fm_const {α β : Type} (xs : List α) (y : β) : xs.filterMap (fun _ => some y) = List.replicate xs.length y := by
  induction xs with
  | nil => rfl
  | cons a r ih => rw [List.filterMap_cons, ih]; rfl
theorem eqv_str (x : List Nat) : D.eqv (.str x) (.str x) = true := by simp [D.eqv]

theorem is_all (F : Nat → Fn) (i : Nat) (xs : List D) (a c : Bool) (mk : List D → D) (hm : mk = .lst ∨ mk = .tup)
    (hl : xs.length ≤ line) (h : ∀ x ∈ xs, F i [x, x] = .ok ((false, .bl true), .non)) :
    lcS GD F [3] (.n 3) .no (.call i (.cons (.ix (.v 0) (.v 3)) (.cons (.ix (.v 1) (.v 3)) .nil))) (rng 0 (xs.length : Int) 1)
      [some (.imm (mk xs)), some (.imm (mk xs)), some (.imm (.bl a)), none]
     = .ok (.tmp (.lst (List.replicate xs.length (.bl true))), [some (.imm (mk xs)), some (.imm (mk xs)), some (.imm (.bl a)), none]) := by
  have hL : (rng 0 (xs.length : Int) 1).length = xs.length := by rw [rng_len]; omega
  rw [lcS_fmG GD F [3] (.n 3) .no _ [some (.imm (mk xs)), some (.imm (mk xs)), some (.imm (.bl a)), none] (rng 0 xs.length 1) (fun _ => some (.bl true)) (by rw [hL]; exact hl) ?_]
  · rw [fm_const, hL]
  · intro d hd
    obtain ⟨k, hk0, hk1, rfl⟩ := (rng_mem _ _ _).mp hd
    have e := atI_nn xs k hk0 hk1
    have hx := h _ (List.getElem_mem (by omega : k.toNat < xs.length))
    rcases hm with rfl | rfl
    · simp -implicitDefEqProofs only [lcT, e, hx, den.eq_1, den.eq_2, den.eq_3, den.eq_4, den.eq_5, den.eq_6, den.eq_7, den.eq_8, den.eq_9, den.eq_10, den.eq_11, den.eq_12, den.eq_13, den.eq_14, den.eq_15, den.eq_16, den.eq_17, den.eq_18, den.eq_19, den.eq_20, den.eq_21, den.eq_22, den.eq_23, den.eq_24, den.eq_25, den.eq_26, den.eq_27, den.eq_33, den.eq_34, denB, denF, denR, denL, denD, denI, denT, denO, denS.eq_1, denS.eq_2, denS.eq_3, denS.eq_4, denS.eq_5, denS.eq_6, denS.eq_7, denS.eq_8, denS.eq_11, denS.eq_12, denS.eq_13, denS.eq_14, denS.eq_15, denS.eq_16, denS.eq_17, denBl_c, denBl_e, goB_nx, goB_rt, goB_ct, goB_bk, goF, ↓R.bind_bnd, R.bnd_ok, R.bnd_exc, R.bnd_bad, R.of_some, R.calm_ok, hvI, hvT, hvS, rd, rdH, fz, fzH, res, resAll, setV, setVs, bindT.eq_1, bindT.eq_2, bindTs.eq_1, bindTs.eq_2, wipe, Lit.d, List.getElem?_cons_zero, List.getElem?_cons_succ, List.set_cons_zero, List.set_cons_succ, binop, augop, cmpop, truth, indexD, biop, if_true, if_false, Bool.false_eq_true, Bool.true_and, Bool.and_true, Bool.false_and, Bool.and_false, List.length_cons, List.length_nil, Option.bind_some, Option.map_some, decide_true, decide_false, decide_eq_true_eq, Bool.not_true, Bool.not_false, Bool.or_false, Bool.false_or, Bool.or_true, Bool.true_or, reduceIte, beq_iff_eq, look, isKey_ss, isKey_ii, dkeys_s, dkeys_i, dkey0_s, dkey0_i, List.all_cons, List.all_nil, List.any_cons, List.any_nil, putD, hasKey_c, hasKey_n, putVs, List.cons_beq_cons, BEq.rfl, beq_self_eq_true, goR, endE, List.map_cons, List.map_nil, Nat.reduceBEq, Nat.reduceLeDiff, Nat.reduceEqDiff, Nat.reduceAdd, Nat.reduceMul, Nat.reduceLT, Nat.reduceSub, Int.reduceLT, Int.reduceLE, Int.reduceNeg, Int.reduceMul, Int.reduceAdd, Int.reduceSub, Int.reduceEq, Int.reduceBEq, Int.reduceNe, reduceCtorEq, Int.reduceToNat, Int.natAbs_natCast, Bool.or_self, Bool.and_self, line_lit, bne_self_eq_false, Bool.bne_true, Bool.bne_false, Int.reducePow, sm64_eq, smB_eq, isTy, isiOk, isLit, denS_for0, denS_whl, den_lc, mask, fzAll, toldEx, rep_1, rep_2, rep_3, eqOk_NONE, eqv_NONE, dep_int, dep_bl, dep_str, dep_non, eqv_int, eqv_bl, eqv_str2, eqOk_int, eqOk_str, natAbs_lit, List.contains_nil, den_gen, genS_nil, genS_cons, testR, isDic, itemsOf, List.all_cons, List.any_cons, id_eq, cast_lit, List.contains_cons, goes_nx, gives_ok, goes_ct, and_self, decide_not, not_false_eq_true, ne_eq]
    · simp -implicitDefEqProofs only [lcT, e, hx, den.eq_1, den.eq_2, den.eq_3, den.eq_4, den.eq_5, den.eq_6, den.eq_7, den.eq_8, den.eq_9, den.eq_10, den.eq_11, den.eq_12, den.eq_13, den.eq_14, den.eq_15, den.eq_16, den.eq_17, den.eq_18, den.eq_19, den.eq_20, den.eq_21, den.eq_22, den.eq_23, den.eq_24, den.eq_25, den.eq_26, den.eq_27, den.eq_33, den.eq_34, denB, denF, denR, denL, denD, denI, denT, denO, denS.eq_1, denS.eq_2, denS.eq_3, denS.eq_4, denS.eq_5, denS.eq_6, denS.eq_7, denS.eq_8, denS.eq_11, denS.eq_12, denS.eq_13, denS.eq_14, denS.eq_15, denS.eq_16, denS.eq_17, denBl_c, denBl_e, goB_nx, goB_rt, goB_ct, goB_bk, goF, ↓R.bind_bnd, R.bnd_ok, R.bnd_exc, R.bnd_bad, R.of_some, R.calm_ok, hvI, hvT, hvS, rd, rdH, fz, fzH, res, resAll, setV, setVs, bindT.eq_1, bindT.eq_2, bindTs.eq_1, bindTs.eq_2, wipe, Lit.d, List.getElem?_cons_zero, List.getElem?_cons_succ, List.set_cons_zero, List.set_cons_succ, binop, augop, cmpop, truth, indexD, biop, if_true, if_false, Bool.false_eq_true, Bool.true_and, Bool.and_true, Bool.false_and, Bool.and_false, List.length_cons, List.length_nil, Option.bind_some, Option.map_some, decide_true, decide_false, decide_eq_true_eq, Bool.not_true, Bool.not_false, Bool.or_false, Bool.false_or, Bool.or_true, Bool.true_or, reduceIte, beq_iff_eq, look, isKey_ss, isKey_ii, dkeys_s, dkeys_i, dkey0_s, dkey0_i, List.all_cons, List.all_nil, List.any_cons, List.any_nil, putD, hasKey_c, hasKey_n, putVs, List.cons_beq_cons, BEq.rfl, beq_self_eq_true, goR, endE, List.map_cons, List.map_nil, Nat.reduceBEq, Nat.reduceLeDiff, Nat.reduceEqDiff, Nat.reduceAdd, Nat.reduceMul, Nat.reduceLT, Nat.reduceSub, Int.reduceLT, Int.reduceLE, Int.reduceNeg, Int.reduceMul, Int.reduceAdd, Int.reduceSub, Int.reduceEq, Int.reduceBEq, Int.reduceNe, reduceCtorEq, Int.reduceToNat, Int.natAbs_natCast, Bool.or_self, Bool.and_self, line_lit, bne_self_eq_false, Bool.bne_true, Bool.bne_false, Int.reducePow, sm64_eq, smB_eq, isTy, isiOk, isLit, denS_for0, denS_whl, den_lc, mask, fzAll, toldEx, rep_1, rep_2, rep_3, eqOk_NONE, eqv_NONE, dep_int, dep_bl, dep_str, dep_non, eqv_int, eqv_bl, eqv_str2, eqOk_int, eqOk_str, natAbs_lit, List.contains_nil, den_gen, genS_nil, genS_cons, testR, isDic, itemsOf, List.all_cons, List.any_cons, id_eq, cast_lit, List.contains_cons, goes_nx, gives_ok, goes_ct, and_self, decide_not, not_false_eq_true, ne_eq]

theorem is_F (F : Nat → Fn) (i : Nat) (n : Nat) (d : D) (h : Plain n d) (hF : ∀ x m, m < n → Plain m x → F i [x, x] = .ok ((false, .bl true), .non)) :
    runF GD F (cfIs i) [d, d] = .ok ((false, .bl true), .non) := by
  rw [runF_def _ _ _ _ ⟨rfl, by simp [cfIs]⟩]
  cases d with
  | dic ks vs => cases n <;> exact False.elim h
  | scr ns => cases n <;> exact False.elim h
  | non => simp -implicitDefEqProofs only [cfIs, startE, List.replicate, List.cons_append, List.nil_append, bne_self_eq_false, den.eq_1, den.eq_2, den.eq_3, den.eq_4, den.eq_5, den.eq_6, den.eq_7, den.eq_8, den.eq_9, den.eq_10, den.eq_11, den.eq_12, den.eq_13, den.eq_14, den.eq_15, den.eq_16, den.eq_17, den.eq_18, den.eq_19, den.eq_20, den.eq_21, den.eq_22, den.eq_23, den.eq_24, den.eq_25, den.eq_26, den.eq_27, den.eq_33, den.eq_34, denB, denF, denR, denL, denD, denI, denT, denO, denS.eq_1, denS.eq_2, denS.eq_3, denS.eq_4, denS.eq_5, denS.eq_6, denS.eq_7, denS.eq_8, denS.eq_11, denS.eq_12, denS.eq_13, denS.eq_14, denS.eq_15, denS.eq_16, denS.eq_17, denBl_c, denBl_e, goB_nx, goB_rt, goB_ct, goB_bk, goF, ↓R.bind_bnd, R.bnd_ok, R.bnd_exc, R.bnd_bad, R.of_some, R.calm_ok, hvI, hvT, hvS, rd, rdH, fz, fzH, res, resAll, setV, setVs, bindT.eq_1, bindT.eq_2, bindTs.eq_1, bindTs.eq_2, wipe, Lit.d, List.getElem?_cons_zero, List.getElem?_cons_succ, List.set_cons_zero, List.set_cons_succ, binop, augop, cmpop, truth, indexD, biop, if_true, if_false, Bool.false_eq_true, Bool.true_and, Bool.and_true, Bool.false_and, Bool.and_false, List.length_cons, List.length_nil, Option.bind_some, Option.map_some, decide_true, decide_false, decide_eq_true_eq, Bool.not_true, Bool.not_false, Bool.or_false, Bool.false_or, Bool.or_true, Bool.true_or, reduceIte, beq_iff_eq, look, isKey_ss, isKey_ii, dkeys_s, dkeys_i, dkey0_s, dkey0_i, List.all_cons, List.all_nil, List.any_cons, List.any_nil, putD, hasKey_c, hasKey_n, putVs, List.cons_beq_cons, BEq.rfl, beq_self_eq_true, goR, endE, List.map_cons, List.map_nil, Nat.reduceBEq, Nat.reduceLeDiff, Nat.reduceEqDiff, Nat.reduceAdd, Nat.reduceMul, Nat.reduceLT, Nat.reduceSub, Int.reduceLT, Int.reduceLE, Int.reduceNeg, Int.reduceMul, Int.reduceAdd, Int.reduceSub, Int.reduceEq, Int.reduceBEq, Int.reduceNe, reduceCtorEq, Int.reduceToNat, Int.natAbs_natCast, Bool.or_self, Bool.and_self, line_lit, bne_self_eq_false, Bool.bne_true, Bool.bne_false, Int.reducePow, sm64_eq, smB_eq, isTy, isiOk, isLit, denS_for0, denS_whl, den_lc, mask, fzAll, toldEx, rep_1, rep_2, rep_3, eqOk_NONE, eqv_NONE, dep_int, dep_bl, dep_str, dep_non, eqv_int, eqv_bl, eqv_str2, eqOk_int, eqOk_str, natAbs_lit, List.contains_nil, den_gen, genS_nil, genS_cons, testR, isDic, itemsOf, List.all_cons, List.any_cons, id_eq, cast_lit, List.contains_cons, goes_nx, gives_ok, goes_ct, and_self, decide_not, not_false_eq_true, ne_eq]
  | bl b => simp -implicitDefEqProofs only [cfIs, startE, List.replicate, List.cons_append, List.nil_append, eqOk, eqOk0, den.eq_1, den.eq_2, den.eq_3, den.eq_4, den.eq_5, den.eq_6, den.eq_7, den.eq_8, den.eq_9, den.eq_10, den.eq_11, den.eq_12, den.eq_13, den.eq_14, den.eq_15, den.eq_16, den.eq_17, den.eq_18, den.eq_19, den.eq_20, den.eq_21, den.eq_22, den.eq_23, den.eq_24, den.eq_25, den.eq_26, den.eq_27, den.eq_33, den.eq_34, denB, denF, denR, denL, denD, denI, denT, denO, denS.eq_1, denS.eq_2, denS.eq_3, denS.eq_4, denS.eq_5, denS.eq_6, denS.eq_7, denS.eq_8, denS.eq_11, denS.eq_12, denS.eq_13, denS.eq_14, denS.eq_15, denS.eq_16, denS.eq_17, denBl_c, denBl_e, goB_nx, goB_rt, goB_ct, goB_bk, goF, ↓R.bind_bnd, R.bnd_ok, R.bnd_exc, R.bnd_bad, R.of_some, R.calm_ok, hvI, hvT, hvS, rd, rdH, fz, fzH, res, resAll, setV, setVs, bindT.eq_1, bindT.eq_2, bindTs.eq_1, bindTs.eq_2, wipe, Lit.d, List.getElem?_cons_zero, List.getElem?_cons_succ, List.set_cons_zero, List.set_cons_succ, binop, augop, cmpop, truth, indexD, biop, if_true, if_false, Bool.false_eq_true, Bool.true_and, Bool.and_true, Bool.false_and, Bool.and_false, List.length_cons, List.length_nil, Option.bind_some, Option.map_some, decide_true, decide_false, decide_eq_true_eq, Bool.not_true, Bool.not_false, Bool.or_false, Bool.false_or, Bool.or_true, Bool.true_or, reduceIte, beq_iff_eq, look, isKey_ss, isKey_ii, dkeys_s, dkeys_i, dkey0_s, dkey0_i, List.all_cons, List.all_nil, List.any_cons, List.any_nil, putD, hasKey_c, hasKey_n, putVs, List.cons_beq_cons, BEq.rfl, beq_self_eq_true, goR, endE, List.map_cons, List.map_nil, Nat.reduceBEq, Nat.reduceLeDiff, Nat.reduceEqDiff, Nat.reduceAdd, Nat.reduceMul, Nat.reduceLT, Nat.reduceSub, Int.reduceLT, Int.reduceLE, Int.reduceNeg, Int.reduceMul, Int.reduceAdd, Int.reduceSub, Int.reduceEq, Int.reduceBEq, Int.reduceNe, reduceCtorEq, Int.reduceToNat, Int.natAbs_natCast, Bool.or_self, Bool.and_self, line_lit, bne_self_eq_false, Bool.bne_true, Bool.bne_false, Int.reducePow, sm64_eq, smB_eq, isTy, isiOk, isLit, denS_for0, denS_whl, den_lc, mask, fzAll, toldEx, rep_1, rep_2, rep_3, eqOk_NONE, eqv_NONE, dep_int, dep_bl, dep_str, dep_non, eqv_int, eqv_bl, eqv_str2, eqOk_int, eqOk_str, natAbs_lit, List.contains_nil, den_gen, genS_nil, genS_cons, testR, isDic, itemsOf, List.all_cons, List.any_cons, id_eq, cast_lit, List.contains_cons, goes_nx, gives_ok, goes_ct, and_self, decide_not, not_false_eq_true, ne_eq]
  | int z => simp -implicitDefEqProofs only [cfIs, startE, List.replicate, List.cons_append, List.nil_append, den.eq_1, den.eq_2, den.eq_3, den.eq_4, den.eq_5, den.eq_6, den.eq_7, den.eq_8, den.eq_9, den.eq_10, den.eq_11, den.eq_12, den.eq_13, den.eq_14, den.eq_15, den.eq_16, den.eq_17, den.eq_18, den.eq_19, den.eq_20, den.eq_21, den.eq_22, den.eq_23, den.eq_24, den.eq_25, den.eq_26, den.eq_27, den.eq_33, den.eq_34, denB, denF, denR, denL, denD, denI, denT, denO, denS.eq_1, denS.eq_2, denS.eq_3, denS.eq_4, denS.eq_5, denS.eq_6, denS.eq_7, denS.eq_8, denS.eq_11, denS.eq_12, denS.eq_13, denS.eq_14, denS.eq_15, denS.eq_16, denS.eq_17, denBl_c, denBl_e, goB_nx, goB_rt, goB_ct, goB_bk, goF, ↓R.bind_bnd, R.bnd_ok, R.bnd_exc, R.bnd_bad, R.of_some, R.calm_ok, hvI, hvT, hvS, rd, rdH, fz, fzH, res, resAll, setV, setVs, bindT.eq_1, bindT.eq_2, bindTs.eq_1, bindTs.eq_2, wipe, Lit.d, List.getElem?_cons_zero, List.getElem?_cons_succ, List.set_cons_zero, List.set_cons_succ, binop, augop, cmpop, truth, indexD, biop, if_true, if_false, Bool.false_eq_true, Bool.true_and, Bool.and_true, Bool.false_and, Bool.and_false, List.length_cons, List.length_nil, Option.bind_some, Option.map_some, decide_true, decide_false, decide_eq_true_eq, Bool.not_true, Bool.not_false, Bool.or_false, Bool.false_or, Bool.or_true, Bool.true_or, reduceIte, beq_iff_eq, look, isKey_ss, isKey_ii, dkeys_s, dkeys_i, dkey0_s, dkey0_i, List.all_cons, List.all_nil, List.any_cons, List.any_nil, putD, hasKey_c, hasKey_n, putVs, List.cons_beq_cons, BEq.rfl, beq_self_eq_true, goR, endE, List.map_cons, List.map_nil, Nat.reduceBEq, Nat.reduceLeDiff, Nat.reduceEqDiff, Nat.reduceAdd, Nat.reduceMul, Nat.reduceLT, Nat.reduceSub, Int.reduceLT, Int.reduceLE, Int.reduceNeg, Int.reduceMul, Int.reduceAdd, Int.reduceSub, Int.reduceEq, Int.reduceBEq, Int.reduceNe, reduceCtorEq, Int.reduceToNat, Int.natAbs_natCast, Bool.or_self, Bool.and_self, line_lit, bne_self_eq_false, Bool.bne_true, Bool.bne_false, Int.reducePow, sm64_eq, smB_eq, isTy, isiOk, isLit, denS_for0, denS_whl, den_lc, mask, fzAll, toldEx, rep_1, rep_2, rep_3, eqOk_NONE, eqv_NONE, dep_int, dep_bl, dep_str, dep_non, eqv_int, eqv_bl, eqv_str2, eqOk_int, eqOk_str, natAbs_lit, List.contains_nil, den_gen, genS_nil, genS_cons, testR, isDic, itemsOf, List.all_cons, List.any_cons, id_eq, cast_lit, List.contains_cons, goes_nx, gives_ok, goes_ct, and_self, decide_not, not_false_eq_true, ne_eq]
  | str x => simp -implicitDefEqProofs only [cfIs, startE, List.replicate, List.cons_append, List.nil_append, eqv_str, den.eq_1, den.eq_2, den.eq_3, den.eq_4, den.eq_5, den.eq_6, den.eq_7, den.eq_8, den.eq_9, den.eq_10, den.eq_11, den.eq_12, den.eq_13, den.eq_14, den.eq_15, den.eq_16, den.eq_17, den.eq_18, den.eq_19, den.eq_20, den.eq_21, den.eq_22, den.eq_23, den.eq_24, den.eq_25, den.eq_26, den.eq_27, den.eq_33, den.eq_34, denB, denF, denR, denL, denD, denI, denT, denO, denS.eq_1, denS.eq_2, denS.eq_3, denS.eq_4, denS.eq_5, denS.eq_6, denS.eq_7, denS.eq_8, denS.eq_11, denS.eq_12, denS.eq_13, denS.eq_14, denS.eq_15, denS.eq_16, denS.eq_17, denBl_c, denBl_e, goB_nx, goB_rt, goB_ct, goB_bk, goF, ↓R.bind_bnd, R.bnd_ok, R.bnd_exc, R.bnd_bad, R.of_some, R.calm_ok, hvI, hvT, hvS, rd, rdH, fz, fzH, res, resAll, setV, setVs, bindT.eq_1, bindT.eq_2, bindTs.eq_1, bindTs.eq_2, wipe, Lit.d, List.getElem?_cons_zero, List.getElem?_cons_succ, List.set_cons_zero, List.set_cons_succ, binop, augop, cmpop, truth, indexD, biop, if_true, if_false, Bool.false_eq_true, Bool.true_and, Bool.and_true, Bool.false_and, Bool.and_false, List.length_cons, List.length_nil, Option.bind_some, Option.map_some, decide_true, decide_false, decide_eq_true_eq, Bool.not_true, Bool.not_false, Bool.or_false, Bool.false_or, Bool.or_true, Bool.true_or, reduceIte, beq_iff_eq, look, isKey_ss, isKey_ii, dkeys_s, dkeys_i, dkey0_s, dkey0_i, List.all_cons, List.all_nil, List.any_cons, List.any_nil, putD, hasKey_c, hasKey_n, putVs, List.cons_beq_cons, BEq.rfl, beq_self_eq_true, goR, endE, List.map_cons, List.map_nil, Nat.reduceBEq, Nat.reduceLeDiff, Nat.reduceEqDiff, Nat.reduceAdd, Nat.reduceMul, Nat.reduceLT, Nat.reduceSub, Int.reduceLT, Int.reduceLE, Int.reduceNeg, Int.reduceMul, Int.reduceAdd, Int.reduceSub, Int.reduceEq, Int.reduceBEq, Int.reduceNe, reduceCtorEq, Int.reduceToNat, Int.natAbs_natCast, Bool.or_self, Bool.and_self, line_lit, bne_self_eq_false, Bool.bne_true, Bool.bne_false, Int.reducePow, sm64_eq, smB_eq, isTy, isiOk, isLit, denS_for0, denS_whl, den_lc, mask, fzAll, toldEx, rep_1, rep_2, rep_3, eqOk_NONE, eqv_NONE, dep_int, dep_bl, dep_str, dep_non, eqv_int, eqv_bl, eqv_str2, eqOk_int, eqOk_str, natAbs_lit, List.contains_nil, den_gen, genS_nil, genS_cons, testR, isDic, itemsOf, List.all_cons, List.any_cons, id_eq, cast_lit, List.contains_cons, goes_nx, gives_ok, goes_ct, and_self, decide_not, not_false_eq_true, ne_eq]
  | lst xs =>
    cases n with
    | zero => exact False.elim h
    | succ n =>
      have hl2 := h.1
      rw [line_lit] at hl2
      have i1 : ((xs.length : Nat) : Int) ≤ 16777216 := by omega
      have i2 : (-16777216 : Int) ≤ ((xs.length : Nat) : Int) := by omega
      have e := is_all GD F i xs true true .lst (Or.inl rfl) h.1 fun x hx => hF x n (Nat.lt_succ_self _) (h.2 x hx)
      simp -implicitDefEqProofs only [cfIs, startE, List.replicate, List.cons_append, List.nil_append, e, i1, i2, allBl_rep, all_rep, den.eq_1, den.eq_2, den.eq_3, den.eq_4, den.eq_5, den.eq_6, den.eq_7, den.eq_8, den.eq_9, den.eq_10, den.eq_11, den.eq_12, den.eq_13, den.eq_14, den.eq_15, den.eq_16, den.eq_17, den.eq_18, den.eq_19, den.eq_20, den.eq_21, den.eq_22, den.eq_23, den.eq_24, den.eq_25, den.eq_26, den.eq_27, den.eq_33, den.eq_34, denB, denF, denR, denL, denD, denI, denT, denO, denS.eq_1, denS.eq_2, denS.eq_3, denS.eq_4, denS.eq_5, denS.eq_6, denS.eq_7, denS.eq_8, denS.eq_11, denS.eq_12, denS.eq_13, denS.eq_14, denS.eq_15, denS.eq_16, denS.eq_17, denBl_c, denBl_e, goB_nx, goB_rt, goB_ct, goB_bk, goF, ↓R.bind_bnd, R.bnd_ok, R.bnd_exc, R.bnd_bad, R.of_some, R.calm_ok, hvI, hvT, hvS, rd, rdH, fz, fzH, res, resAll, setV, setVs, bindT.eq_1, bindT.eq_2, bindTs.eq_1, bindTs.eq_2, wipe, Lit.d, List.getElem?_cons_zero, List.getElem?_cons_succ, List.set_cons_zero, List.set_cons_succ, binop, augop, cmpop, truth, indexD, biop, if_true, if_false, Bool.false_eq_true, Bool.true_and, Bool.and_true, Bool.false_and, Bool.and_false, List.length_cons, List.length_nil, Option.bind_some, Option.map_some, decide_true, decide_false, decide_eq_true_eq, Bool.not_true, Bool.not_false, Bool.or_false, Bool.false_or, Bool.or_true, Bool.true_or, reduceIte, beq_iff_eq, look, isKey_ss, isKey_ii, dkeys_s, dkeys_i, dkey0_s, dkey0_i, List.all_cons, List.all_nil, List.any_cons, List.any_nil, putD, hasKey_c, hasKey_n, putVs, List.cons_beq_cons, BEq.rfl, beq_self_eq_true, goR, endE, List.map_cons, List.map_nil, Nat.reduceBEq, Nat.reduceLeDiff, Nat.reduceEqDiff, Nat.reduceAdd, Nat.reduceMul, Nat.reduceLT, Nat.reduceSub, Int.reduceLT, Int.reduceLE, Int.reduceNeg, Int.reduceMul, Int.reduceAdd, Int.reduceSub, Int.reduceEq, Int.reduceBEq, Int.reduceNe, reduceCtorEq, Int.reduceToNat, Int.natAbs_natCast, Bool.or_self, Bool.and_self, line_lit, bne_self_eq_false, Bool.bne_true, Bool.bne_false, Int.reducePow, sm64_eq, smB_eq, isTy, isiOk, isLit, denS_for0, denS_whl, den_lc, mask, fzAll, toldEx, rep_1, rep_2, rep_3, eqOk_NONE, eqv_NONE, dep_int, dep_bl, dep_str, dep_non, eqv_int, eqv_bl, eqv_str2, eqOk_int, eqOk_str, natAbs_lit, List.contains_nil, den_gen, genS_nil, genS_cons, testR, isDic, itemsOf, List.all_cons, List.any_cons, id_eq, cast_lit, List.contains_cons, goes_nx, gives_ok, goes_ct, and_self, decide_not, not_false_eq_true, ne_eq]
  | tup xs =>
    cases n with
    | zero => exact False.elim h
    | succ n =>
      have hl2 := h.1
      rw [line_lit] at hl2
      have i1 : ((xs.length : Nat) : Int) ≤ 16777216 := by omega
      have i2 : (-16777216 : Int) ≤ ((xs.length : Nat) : Int) := by omega
      have e := is_all GD F i xs true true .tup (Or.inr rfl) h.1 fun x hx => hF x n (Nat.lt_succ_self _) (h.2 x hx)
      simp -implicitDefEqProofs only [cfIs, startE, List.replicate, List.cons_append, List.nil_append, e, i1, i2, allBl_rep, all_rep, den.eq_1, den.eq_2, den.eq_3, den.eq_4, den.eq_5, den.eq_6, den.eq_7, den.eq_8, den.eq_9, den.eq_10, den.eq_11, den.eq_12, den.eq_13, den.eq_14, den.eq_15, den.eq_16, den.eq_17, den.eq_18, den.eq_19, den.eq_20, den.eq_21, den.eq_22, den.eq_23, den.eq_24, den.eq_25, den.eq_26, den.eq_27, den.eq_33, den.eq_34, denB, denF, denR, denL, denD, denI, denT, denO, denS.eq_1, denS.eq_2, denS.eq_3, denS.eq_4, denS.eq_5, denS.eq_6, denS.eq_7, denS.eq_8, denS.eq_11, denS.eq_12, denS.eq_13, denS.eq_14, denS.eq_15, denS.eq_16, denS.eq_17, denBl_c, denBl_e, goB_nx, goB_rt, goB_ct, goB_bk, goF, ↓R.bind_bnd, R.bnd_ok, R.bnd_exc, R.bnd_bad, R.of_some, R.calm_ok, hvI, hvT, hvS, rd, rdH, fz, fzH, res, resAll, setV, setVs, bindT.eq_1, bindT.eq_2, bindTs.eq_1, bindTs.eq_2, wipe, Lit.d, List.getElem?_cons_zero, List.getElem?_cons_succ, List.set_cons_zero, List.set_cons_succ, binop, augop, cmpop, truth, indexD, biop, if_true, if_false, Bool.false_eq_true, Bool.true_and, Bool.and_true, Bool.false_and, Bool.and_false, List.length_cons, List.length_nil, Option.bind_some, Option.map_some, decide_true, decide_false, decide_eq_true_eq, Bool.not_true, Bool.not_false, Bool.or_false, Bool.false_or, Bool.or_true, Bool.true_or, reduceIte, beq_iff_eq, look, isKey_ss, isKey_ii, dkeys_s, dkeys_i, dkey0_s, dkey0_i, List.all_cons, List.all_nil, List.any_cons, List.any_nil, putD, hasKey_c, hasKey_n, putVs, List.cons_beq_cons, BEq.rfl, beq_self_eq_true, goR, endE, List.map_cons, List.map_nil, Nat.reduceBEq, Nat.reduceLeDiff, Nat.reduceEqDiff, Nat.reduceAdd, Nat.reduceMul, Nat.reduceLT, Nat.reduceSub, Int.reduceLT, Int.reduceLE, Int.reduceNeg, Int.reduceMul, Int.reduceAdd, Int.reduceSub, Int.reduceEq, Int.reduceBEq, Int.reduceNe, reduceCtorEq, Int.reduceToNat, Int.natAbs_natCast, Bool.or_self, Bool.and_self, line_lit, bne_self_eq_false, Bool.bne_true, Bool.bne_false, Int.reducePow, sm64_eq, smB_eq, isTy, isiOk, isLit, denS_for0, denS_whl, den_lc, mask, fzAll, toldEx, rep_1, rep_2, rep_3, eqOk_NONE, eqv_NONE, dep_int, dep_bl, dep_str, dep_non, eqv_int, eqv_bl, eqv_str2, eqOk_int, eqOk_str, natAbs_lit, List.contains_nil, den_gen, genS_nil, genS_cons, testR, isDic, itemsOf, List.all_cons, List.any_cons, id_eq, cast_lit, List.contains_cons, goes_nx, gives_ok, goes_ct, and_self, decide_not, not_false_eq_true, ne_eq]

theorem is_ok {defs : List CF} {i : Nat} (h : defs[i]? = some (cfIs i)) : ∀ (l n : Nat) (d : D), Plain n d → n < l → run GD defs l i [d, d] = .ok ((false, .bl true), .non) := by
  intro l
  induction l with
  | zero => intro n d _ hn; omega
  | succ l ih =>
    intro n d hp hn
    rw [run_s GD h]
    exact is_F GD _ i n d hp fun x m hm hx => ih m x hx (by omega)
end
end Kn

end

section
/-! K, the functions that every law has: draws and box -/
namespace Kn
section
variable (GD : Nat → D)

def cfDraws : CF := ⟨7, 3, false, (.c (.set 3 (.v 0))
  (.c (.iff (.cmp .lt (.v 3) (.k (.int 0)))
  (.c (.set 3 (.bin .sub (.bin .sub (.k (.int 0)) (.k (.int 1))) (.v 3)))
  .e)
  .e)
  (.c (.set 4 (.lst .nil))
  (.c (.iff (.cmp .ge (.v 3) (.bin .pow (.k (.int 10)) (.k (.int 18))))
  (.c (.for_ (.n 5) (.r1 (.v 2))
  (.c (.app 4 (.bin .mod (.bi .int (.cons (.v 3) .nil)) (.v 1)))
  (.c (.set 3 (.bin .fdiv (.v 3) (.v 1)))
  .e)))
  (.c (.ret (.v 4))
  .e))
  .e)
  (.c (.for_ (.n 5) (.r1 (.v 2))
  (.c (.set 6 (.bin .mod (.bi .int (.cons (.bin .mul (.bin .add (.bin .add (.v 3) (.bin .mul (.k (.int 7)) (.v 5))) (.k (.int 1))) (.k (.int 48271))) .nil)) (.k (.int 2147483647))))
  (.c (.set 6 (.bin .mod (.bi .int (.cons (.bin .add (.bin .mul (.v 6) (.k (.int 69621))) (.bin .mul (.k (.int 31)) (.v 5))) .nil)) (.k (.int 2147483629))))
  (.c (.app 4 (.bin .mod (.bi .int (.cons (.bin .fdiv (.v 6) (.k (.int 7))) .nil)) (.v 1)))
  .e))))
  (.c (.ret (.v 4))
  .e))))))⟩

theorem natAbs_m : (1000003 : Int).natAbs = 1000003 := by decide
theorem natAbs_7 : (7 : Int).natAbs = 7 := by decide
theorem natAbs_10 : (10 : Int).natAbs = 10 := by decide
theorem map_snoc (xs : List Int) (a : Int) : xs.map D.int ++ [D.int a] = (xs ++ [a]).map D.int := by simp

/-- the row's slots while a loop goes -/
def IDr (c : Int) (k : Int) (ρ : Env) : Prop := ∃ (n : Int) (xs : List Int) (g5 g6 : Option PV), (xs.length : Int) = k ∧
  ρ = [some (.imm (.int c)), some (.imm (.int 1000003)), some (.imm (.int 6)), some (.imm (.int n)), some (.own (.lst (xs.map .int))), g5, g6]

theorem draws_l1 (F : Nat → Fn) (c : Int) (ρ : Env) (h0 : IDr c 0 ρ) : ∃ ρ', forLoop (forT GD F false (.n 5) (.c (.app 4 (.bin .mod (.bi .int (.cons (.v 3) .nil)) (.v 1)))
  (.c (.set 3 (.bin .fdiv (.v 3) (.v 1)))
  .e))) (rng 0 6 1) ρ = .ok (.nx ρ') ∧ IDr c 6 ρ' := by
  refine for_rangeG _ 0 6 (IDr c) ρ (by decide) h0 ?_
  rintro k ρ hk0 hk1 ⟨n, xs, g5, g6, hx, rfl⟩
  have hl : xs.length < 16777216 := by omega
  simp -implicitDefEqProofs only [forT, List.length_map, hl, natAbs_m, map_snoc, den.eq_1, den.eq_2, den.eq_3, den.eq_4, den.eq_5, den.eq_6, den.eq_7, den.eq_8, den.eq_9, den.eq_10, den.eq_11, den.eq_12, den.eq_13, den.eq_14, den.eq_15, den.eq_16, den.eq_17, den.eq_18, den.eq_19, den.eq_20, den.eq_21, den.eq_22, den.eq_23, den.eq_24, den.eq_25, den.eq_26, den.eq_27, den.eq_33, den.eq_34, denB, denF, denR, denL, denD, denI, denT, denO, denS.eq_1, denS.eq_2, denS.eq_3, denS.eq_4, denS.eq_5, denS.eq_6, denS.eq_7, denS.eq_8, denS.eq_11, denS.eq_12, denS.eq_13, denS.eq_14, denS.eq_15, denS.eq_16, denS.eq_17, denBl_c, denBl_e, goB_nx, goB_rt, goB_ct, goB_bk, goF, ↓R.bind_bnd, R.bnd_ok, R.bnd_exc, R.bnd_bad, R.of_some, R.calm_ok, hvI, hvT, hvS, rd, rdH, fz, fzH, res, resAll, setV, setVs, bindT.eq_1, bindT.eq_2, bindTs.eq_1, bindTs.eq_2, wipe, Lit.d, List.getElem?_cons_zero, List.getElem?_cons_succ, List.set_cons_zero, List.set_cons_succ, binop, augop, cmpop, truth, indexD, biop, if_true, if_false, Bool.false_eq_true, Bool.true_and, Bool.and_true, Bool.false_and, Bool.and_false, List.length_cons, List.length_nil, Option.bind_some, Option.map_some, decide_true, decide_false, decide_eq_true_eq, Bool.not_true, Bool.not_false, Bool.or_false, Bool.false_or, Bool.or_true, Bool.true_or, reduceIte, beq_iff_eq, look, isKey_ss, isKey_ii, dkeys_s, dkeys_i, dkey0_s, dkey0_i, List.all_cons, List.all_nil, List.any_cons, List.any_nil, putD, hasKey_c, hasKey_n, putVs, List.cons_beq_cons, BEq.rfl, beq_self_eq_true, goR, endE, List.map_cons, List.map_nil, Nat.reduceBEq, Nat.reduceLeDiff, Nat.reduceEqDiff, Nat.reduceAdd, Nat.reduceMul, Nat.reduceLT, Nat.reduceSub, Int.reduceLT, Int.reduceLE, Int.reduceNeg, Int.reduceMul, Int.reduceAdd, Int.reduceSub, Int.reduceEq, Int.reduceBEq, Int.reduceNe, reduceCtorEq, Int.reduceToNat, Int.natAbs_natCast, Bool.or_self, Bool.and_self, line_lit, bne_self_eq_false, Bool.bne_true, Bool.bne_false, Int.reducePow, sm64_eq, smB_eq, isTy, isiOk, isLit, denS_for0, denS_whl, den_lc, mask, fzAll, toldEx, rep_1, rep_2, rep_3, eqOk_NONE, eqv_NONE, dep_int, dep_bl, dep_str, dep_non, eqv_int, eqv_bl, eqv_str2, eqOk_int, eqOk_str, natAbs_lit, List.contains_nil, den_gen, genS_nil, genS_cons, testR, isDic, itemsOf, List.all_cons, List.any_cons, id_eq, cast_lit, List.contains_cons, goes_nx, gives_ok, goes_ct, and_self, decide_not, not_false_eq_true, ne_eq]
  exact ⟨_, _, _, _, by rw [List.length_append, List.length_singleton]; omega, rfl⟩

theorem draws_l2 (F : Nat → Fn) (c : Int) (ρ : Env) (h0 : IDr c 0 ρ) : ∃ ρ', forLoop (forT GD F false (.n 5) (.c (.set 6 (.bin .mod (.bi .int (.cons (.bin .mul (.bin .add (.bin .add (.v 3) (.bin .mul (.k (.int 7)) (.v 5))) (.k (.int 1))) (.k (.int 48271))) .nil)) (.k (.int 2147483647))))
  (.c (.set 6 (.bin .mod (.bi .int (.cons (.bin .add (.bin .mul (.v 6) (.k (.int 69621))) (.bin .mul (.k (.int 31)) (.v 5))) .nil)) (.k (.int 2147483629))))
  (.c (.app 4 (.bin .mod (.bi .int (.cons (.bin .fdiv (.v 6) (.k (.int 7))) .nil)) (.v 1)))
  .e)))) (rng 0 6 1) ρ = .ok (.nx ρ') ∧ IDr c 6 ρ' := by
  refine for_rangeG _ 0 6 (IDr c) ρ (by decide) h0 ?_
  rintro k ρ hk0 hk1 ⟨n, xs, g5, g6, hx, rfl⟩
  have hl : xs.length < 16777216 := by omega
  simp -implicitDefEqProofs only [forT, List.length_map, hl, natAbs_m, natAbs_7, map_snoc, den.eq_1, den.eq_2, den.eq_3, den.eq_4, den.eq_5, den.eq_6, den.eq_7, den.eq_8, den.eq_9, den.eq_10, den.eq_11, den.eq_12, den.eq_13, den.eq_14, den.eq_15, den.eq_16, den.eq_17, den.eq_18, den.eq_19, den.eq_20, den.eq_21, den.eq_22, den.eq_23, den.eq_24, den.eq_25, den.eq_26, den.eq_27, den.eq_33, den.eq_34, denB, denF, denR, denL, denD, denI, denT, denO, denS.eq_1, denS.eq_2, denS.eq_3, denS.eq_4, denS.eq_5, denS.eq_6, denS.eq_7, denS.eq_8, denS.eq_11, denS.eq_12, denS.eq_13, denS.eq_14, denS.eq_15, denS.eq_16, denS.eq_17, denBl_c, denBl_e, goB_nx, goB_rt, goB_ct, goB_bk, goF, ↓R.bind_bnd, R.bnd_ok, R.bnd_exc, R.bnd_bad, R.of_some, R.calm_ok, hvI, hvT, hvS, rd, rdH, fz, fzH, res, resAll, setV, setVs, bindT.eq_1, bindT.eq_2, bindTs.eq_1, bindTs.eq_2, wipe, Lit.d, List.getElem?_cons_zero, List.getElem?_cons_succ, List.set_cons_zero, List.set_cons_succ, binop, augop, cmpop, truth, indexD, biop, if_true, if_false, Bool.false_eq_true, Bool.true_and, Bool.and_true, Bool.false_and, Bool.and_false, List.length_cons, List.length_nil, Option.bind_some, Option.map_some, decide_true, decide_false, decide_eq_true_eq, Bool.not_true, Bool.not_false, Bool.or_false, Bool.false_or, Bool.or_true, Bool.true_or, reduceIte, beq_iff_eq, look, isKey_ss, isKey_ii, dkeys_s, dkeys_i, dkey0_s, dkey0_i, List.all_cons, List.all_nil, List.any_cons, List.any_nil, putD, hasKey_c, hasKey_n, putVs, List.cons_beq_cons, BEq.rfl, beq_self_eq_true, goR, endE, List.map_cons, List.map_nil, Nat.reduceBEq, Nat.reduceLeDiff, Nat.reduceEqDiff, Nat.reduceAdd, Nat.reduceMul, Nat.reduceLT, Nat.reduceSub, Int.reduceLT, Int.reduceLE, Int.reduceNeg, Int.reduceMul, Int.reduceAdd, Int.reduceSub, Int.reduceEq, Int.reduceBEq, Int.reduceNe, reduceCtorEq, Int.reduceToNat, Int.natAbs_natCast, Bool.or_self, Bool.and_self, line_lit, bne_self_eq_false, Bool.bne_true, Bool.bne_false, Int.reducePow, sm64_eq, smB_eq, isTy, isiOk, isLit, denS_for0, denS_whl, den_lc, mask, fzAll, toldEx, rep_1, rep_2, rep_3, eqOk_NONE, eqv_NONE, dep_int, dep_bl, dep_str, dep_non, eqv_int, eqv_bl, eqv_str2, eqOk_int, eqOk_str, natAbs_lit, List.contains_nil, den_gen, genS_nil, genS_cons, testR, isDic, itemsOf, List.all_cons, List.any_cons, id_eq, cast_lit, List.contains_cons, goes_nx, gives_ok, goes_ct, and_self, decide_not, not_false_eq_true, ne_eq]
  exact ⟨_, _, _, _, by rw [List.length_append, List.length_singleton]; omega, rfl⟩

theorem draws_F (F : Nat → Fn) (c : Int) : ∃ xs : List Int, xs.length = 6 ∧ runF GD F cfDraws [.int c, .int 1000003, .int 6] = .ok ((true, .lst (xs.map .int)), .non) := by
  suffices h : ∀ n : Int, ∃ xs : List Int, xs.length = 6 ∧ (denBl GD F false (.c (.set 4 (.lst .nil))
  (.c (.iff (.cmp .ge (.v 3) (.bin .pow (.k (.int 10)) (.k (.int 18))))
  (.c (.for_ (.n 5) (.r1 (.v 2))
  (.c (.app 4 (.bin .mod (.bi .int (.cons (.v 3) .nil)) (.v 1)))
  (.c (.set 3 (.bin .fdiv (.v 3) (.v 1)))
  .e)))
  (.c (.ret (.v 4))
  .e))
  .e)
  (.c (.for_ (.n 5) (.r1 (.v 2))
  (.c (.set 6 (.bin .mod (.bi .int (.cons (.bin .mul (.bin .add (.bin .add (.v 3) (.bin .mul (.k (.int 7)) (.v 5))) (.k (.int 1))) (.k (.int 48271))) .nil)) (.k (.int 2147483647))))
  (.c (.set 6 (.bin .mod (.bi .int (.cons (.bin .add (.bin .mul (.v 6) (.k (.int 69621))) (.bin .mul (.k (.int 31)) (.v 5))) .nil)) (.k (.int 2147483629))))
  (.c (.app 4 (.bin .mod (.bi .int (.cons (.bin .fdiv (.v 6) (.k (.int 7))) .nil)) (.v 1)))
  .e))))
  (.c (.ret (.v 4))
  .e)))) [some (.imm (.int c)), some (.imm (.int 1000003)), some (.imm (.int 6)), some (.imm (.int n)), none, none, none]).bind (goR false) = .ok ((true, .lst (xs.map .int)), .non) by
    by_cases hc : c < 0
    · obtain ⟨xs, h1, h2⟩ := h (0 - 1 - c)
      refine ⟨xs, h1, ?_⟩
      rw [runF_def _ _ _ _ ⟨rfl, by decide⟩, ← h2]
      unfold cfDraws
      rw [denBl_c, denBl_c]
      simp -implicitDefEqProofs only [startE, List.replicate, List.cons_append, List.nil_append, hc, den.eq_1, den.eq_2, den.eq_3, den.eq_4, den.eq_5, den.eq_6, den.eq_7, den.eq_8, den.eq_9, den.eq_10, den.eq_11, den.eq_12, den.eq_13, den.eq_14, den.eq_15, den.eq_16, den.eq_17, den.eq_18, den.eq_19, den.eq_20, den.eq_21, den.eq_22, den.eq_23, den.eq_24, den.eq_25, den.eq_26, den.eq_27, den.eq_33, den.eq_34, denB, denF, denR, denL, denD, denI, denT, denO, denS.eq_1, denS.eq_2, denS.eq_3, denS.eq_4, denS.eq_5, denS.eq_6, denS.eq_7, denS.eq_8, denS.eq_11, denS.eq_12, denS.eq_13, denS.eq_14, denS.eq_15, denS.eq_16, denS.eq_17, denBl_c, denBl_e, goB_nx, goB_rt, goB_ct, goB_bk, goF, ↓R.bind_bnd, R.bnd_ok, R.bnd_exc, R.bnd_bad, R.of_some, R.calm_ok, hvI, hvT, hvS, rd, rdH, fz, fzH, res, resAll, setV, setVs, bindT.eq_1, bindT.eq_2, bindTs.eq_1, bindTs.eq_2, wipe, Lit.d, List.getElem?_cons_zero, List.getElem?_cons_succ, List.set_cons_zero, List.set_cons_succ, binop, augop, cmpop, truth, indexD, biop, if_true, if_false, Bool.false_eq_true, Bool.true_and, Bool.and_true, Bool.false_and, Bool.and_false, List.length_cons, List.length_nil, Option.bind_some, Option.map_some, decide_true, decide_false, decide_eq_true_eq, Bool.not_true, Bool.not_false, Bool.or_false, Bool.false_or, Bool.or_true, Bool.true_or, reduceIte, beq_iff_eq, look, isKey_ss, isKey_ii, dkeys_s, dkeys_i, dkey0_s, dkey0_i, List.all_cons, List.all_nil, List.any_cons, List.any_nil, putD, hasKey_c, hasKey_n, putVs, List.cons_beq_cons, BEq.rfl, beq_self_eq_true, goR, endE, List.map_cons, List.map_nil, Nat.reduceBEq, Nat.reduceLeDiff, Nat.reduceEqDiff, Nat.reduceAdd, Nat.reduceMul, Nat.reduceLT, Nat.reduceSub, Int.reduceLT, Int.reduceLE, Int.reduceNeg, Int.reduceMul, Int.reduceAdd, Int.reduceSub, Int.reduceEq, Int.reduceBEq, Int.reduceNe, reduceCtorEq, Int.reduceToNat, Int.natAbs_natCast, Bool.or_self, Bool.and_self, line_lit, bne_self_eq_false, Bool.bne_true, Bool.bne_false, Int.reducePow, sm64_eq, smB_eq, isTy, isiOk, isLit, denS_for0, denS_whl, den_lc, mask, fzAll, toldEx, rep_1, rep_2, rep_3, eqOk_NONE, eqv_NONE, dep_int, dep_bl, dep_str, dep_non, eqv_int, eqv_bl, eqv_str2, eqOk_int, eqOk_str, natAbs_lit, List.contains_nil, den_gen, genS_nil, genS_cons, testR, isDic, itemsOf, List.all_cons, List.any_cons, id_eq, cast_lit, List.contains_cons, goes_nx, gives_ok, goes_ct, and_self, decide_not, not_false_eq_true, ne_eq]
    · obtain ⟨xs, h1, h2⟩ := h c
      refine ⟨xs, h1, ?_⟩
      rw [runF_def _ _ _ _ ⟨rfl, by decide⟩, ← h2]
      unfold cfDraws
      simp -implicitDefEqProofs only [startE, List.replicate, List.cons_append, List.nil_append, hc, den.eq_1, den.eq_2, den.eq_3, den.eq_4, den.eq_5, den.eq_6, den.eq_7, den.eq_8, den.eq_9, den.eq_10, den.eq_11, den.eq_12, den.eq_13, den.eq_14, den.eq_15, den.eq_16, den.eq_17, den.eq_18, den.eq_19, den.eq_20, den.eq_21, den.eq_22, den.eq_23, den.eq_24, den.eq_25, den.eq_26, den.eq_27, den.eq_33, den.eq_34, denB, denF, denR, denL, denD, denI, denT, denO, denS.eq_1, denS.eq_2, denS.eq_3, denS.eq_4, denS.eq_5, denS.eq_6, denS.eq_7, denS.eq_8, denS.eq_11, denS.eq_12, denS.eq_13, denS.eq_14, denS.eq_15, denS.eq_16, denS.eq_17, denBl_c, denBl_e, goB_nx, goB_rt, goB_ct, goB_bk, goF, ↓R.bind_bnd, R.bnd_ok, R.bnd_exc, R.bnd_bad, R.of_some, R.calm_ok, hvI, hvT, hvS, rd, rdH, fz, fzH, res, resAll, setV, setVs, bindT.eq_1, bindT.eq_2, bindTs.eq_1, bindTs.eq_2, wipe, Lit.d, List.getElem?_cons_zero, List.getElem?_cons_succ, List.set_cons_zero, List.set_cons_succ, binop, augop, cmpop, truth, indexD, biop, if_true, if_false, Bool.false_eq_true, Bool.true_and, Bool.and_true, Bool.false_and, Bool.and_false, List.length_cons, List.length_nil, Option.bind_some, Option.map_some, decide_true, decide_false, decide_eq_true_eq, Bool.not_true, Bool.not_false, Bool.or_false, Bool.false_or, Bool.or_true, Bool.true_or, reduceIte, beq_iff_eq, look, isKey_ss, isKey_ii, dkeys_s, dkeys_i, dkey0_s, dkey0_i, List.all_cons, List.all_nil, List.any_cons, List.any_nil, putD, hasKey_c, hasKey_n, putVs, List.cons_beq_cons, BEq.rfl, beq_self_eq_true, goR, endE, List.map_cons, List.map_nil, Nat.reduceBEq, Nat.reduceLeDiff, Nat.reduceEqDiff, Nat.reduceAdd, Nat.reduceMul, Nat.reduceLT, Nat.reduceSub, Int.reduceLT, Int.reduceLE, Int.reduceNeg, Int.reduceMul, Int.reduceAdd, Int.reduceSub, Int.reduceEq, Int.reduceBEq, Int.reduceNe, reduceCtorEq, Int.reduceToNat, Int.natAbs_natCast, Bool.or_self, Bool.and_self, line_lit, bne_self_eq_false, Bool.bne_true, Bool.bne_false, Int.reducePow, sm64_eq, smB_eq, isTy, isiOk, isLit, denS_for0, denS_whl, den_lc, mask, fzAll, toldEx, rep_1, rep_2, rep_3, eqOk_NONE, eqv_NONE, dep_int, dep_bl, dep_str, dep_non, eqv_int, eqv_bl, eqv_str2, eqOk_int, eqOk_str, natAbs_lit, List.contains_nil, den_gen, genS_nil, genS_cons, testR, isDic, itemsOf, List.all_cons, List.any_cons, id_eq, cast_lit, List.contains_cons, goes_nx, gives_ok, goes_ct, and_self, decide_not, not_false_eq_true, ne_eq]
  intro n
  have hI : IDr c 0 [some (.imm (.int c)), some (.imm (.int 1000003)), some (.imm (.int 6)), some (.imm (.int n)), some (.own (.lst [])), none, none] := ⟨n, [], none, none, rfl, rfl⟩
  by_cases hn : 1000000000000000000 ≤ n
  · obtain ⟨ρ', h1, ⟨n', xs, g5, g6, hx, rfl⟩⟩ := draws_l1 GD F c _ hI
    refine ⟨xs, by omega, ?_⟩
    simp -implicitDefEqProofs only [hn, h1, natAbs_10, den.eq_1, den.eq_2, den.eq_3, den.eq_4, den.eq_5, den.eq_6, den.eq_7, den.eq_8, den.eq_9, den.eq_10, den.eq_11, den.eq_12, den.eq_13, den.eq_14, den.eq_15, den.eq_16, den.eq_17, den.eq_18, den.eq_19, den.eq_20, den.eq_21, den.eq_22, den.eq_23, den.eq_24, den.eq_25, den.eq_26, den.eq_27, den.eq_33, den.eq_34, denB, denF, denR, denL, denD, denI, denT, denO, denS.eq_1, denS.eq_2, denS.eq_3, denS.eq_4, denS.eq_5, denS.eq_6, denS.eq_7, denS.eq_8, denS.eq_11, denS.eq_12, denS.eq_13, denS.eq_14, denS.eq_15, denS.eq_16, denS.eq_17, denBl_c, denBl_e, goB_nx, goB_rt, goB_ct, goB_bk, goF, ↓R.bind_bnd, R.bnd_ok, R.bnd_exc, R.bnd_bad, R.of_some, R.calm_ok, hvI, hvT, hvS, rd, rdH, fz, fzH, res, resAll, setV, setVs, bindT.eq_1, bindT.eq_2, bindTs.eq_1, bindTs.eq_2, wipe, Lit.d, List.getElem?_cons_zero, List.getElem?_cons_succ, List.set_cons_zero, List.set_cons_succ, binop, augop, cmpop, truth, indexD, biop, if_true, if_false, Bool.false_eq_true, Bool.true_and, Bool.and_true, Bool.false_and, Bool.and_false, List.length_cons, List.length_nil, Option.bind_some, Option.map_some, decide_true, decide_false, decide_eq_true_eq, Bool.not_true, Bool.not_false, Bool.or_false, Bool.false_or, Bool.or_true, Bool.true_or, reduceIte, beq_iff_eq, look, isKey_ss, isKey_ii, dkeys_s, dkeys_i, dkey0_s, dkey0_i, List.all_cons, List.all_nil, List.any_cons, List.any_nil, putD, hasKey_c, hasKey_n, putVs, List.cons_beq_cons, BEq.rfl, beq_self_eq_true, goR, endE, List.map_cons, List.map_nil, Nat.reduceBEq, Nat.reduceLeDiff, Nat.reduceEqDiff, Nat.reduceAdd, Nat.reduceMul, Nat.reduceLT, Nat.reduceSub, Int.reduceLT, Int.reduceLE, Int.reduceNeg, Int.reduceMul, Int.reduceAdd, Int.reduceSub, Int.reduceEq, Int.reduceBEq, Int.reduceNe, reduceCtorEq, Int.reduceToNat, Int.natAbs_natCast, Bool.or_self, Bool.and_self, line_lit, bne_self_eq_false, Bool.bne_true, Bool.bne_false, Int.reducePow, sm64_eq, smB_eq, isTy, isiOk, isLit, denS_for0, denS_whl, den_lc, mask, fzAll, toldEx, rep_1, rep_2, rep_3, eqOk_NONE, eqv_NONE, dep_int, dep_bl, dep_str, dep_non, eqv_int, eqv_bl, eqv_str2, eqOk_int, eqOk_str, natAbs_lit, List.contains_nil, den_gen, genS_nil, genS_cons, testR, isDic, itemsOf, List.all_cons, List.any_cons, id_eq, cast_lit, List.contains_cons, goes_nx, gives_ok, goes_ct, and_self, decide_not, not_false_eq_true, ne_eq]
  · obtain ⟨ρ', h1, ⟨n', xs, g5, g6, hx, rfl⟩⟩ := draws_l2 GD F c _ hI
    refine ⟨xs, by omega, ?_⟩
    simp -implicitDefEqProofs only [hn, h1, natAbs_10, den.eq_1, den.eq_2, den.eq_3, den.eq_4, den.eq_5, den.eq_6, den.eq_7, den.eq_8, den.eq_9, den.eq_10, den.eq_11, den.eq_12, den.eq_13, den.eq_14, den.eq_15, den.eq_16, den.eq_17, den.eq_18, den.eq_19, den.eq_20, den.eq_21, den.eq_22, den.eq_23, den.eq_24, den.eq_25, den.eq_26, den.eq_27, den.eq_33, den.eq_34, denB, denF, denR, denL, denD, denI, denT, denO, denS.eq_1, denS.eq_2, denS.eq_3, denS.eq_4, denS.eq_5, denS.eq_6, denS.eq_7, denS.eq_8, denS.eq_11, denS.eq_12, denS.eq_13, denS.eq_14, denS.eq_15, denS.eq_16, denS.eq_17, denBl_c, denBl_e, goB_nx, goB_rt, goB_ct, goB_bk, goF, ↓R.bind_bnd, R.bnd_ok, R.bnd_exc, R.bnd_bad, R.of_some, R.calm_ok, hvI, hvT, hvS, rd, rdH, fz, fzH, res, resAll, setV, setVs, bindT.eq_1, bindT.eq_2, bindTs.eq_1, bindTs.eq_2, wipe, Lit.d, List.getElem?_cons_zero, List.getElem?_cons_succ, List.set_cons_zero, List.set_cons_succ, binop, augop, cmpop, truth, indexD, biop, if_true, if_false, Bool.false_eq_true, Bool.true_and, Bool.and_true, Bool.false_and, Bool.and_false, List.length_cons, List.length_nil, Option.bind_some, Option.map_some, decide_true, decide_false, decide_eq_true_eq, Bool.not_true, Bool.not_false, Bool.or_false, Bool.false_or, Bool.or_true, Bool.true_or, reduceIte, beq_iff_eq, look, isKey_ss, isKey_ii, dkeys_s, dkeys_i, dkey0_s, dkey0_i, List.all_cons, List.all_nil, List.any_cons, List.any_nil, putD, hasKey_c, hasKey_n, putVs, List.cons_beq_cons, BEq.rfl, beq_self_eq_true, goR, endE, List.map_cons, List.map_nil, Nat.reduceBEq, Nat.reduceLeDiff, Nat.reduceEqDiff, Nat.reduceAdd, Nat.reduceMul, Nat.reduceLT, Nat.reduceSub, Int.reduceLT, Int.reduceLE, Int.reduceNeg, Int.reduceMul, Int.reduceAdd, Int.reduceSub, Int.reduceEq, Int.reduceBEq, Int.reduceNe, reduceCtorEq, Int.reduceToNat, Int.natAbs_natCast, Bool.or_self, Bool.and_self, line_lit, bne_self_eq_false, Bool.bne_true, Bool.bne_false, Int.reducePow, sm64_eq, smB_eq, isTy, isiOk, isLit, denS_for0, denS_whl, den_lc, mask, fzAll, toldEx, rep_1, rep_2, rep_3, eqOk_NONE, eqv_NONE, dep_int, dep_bl, dep_str, dep_non, eqv_int, eqv_bl, eqv_str2, eqOk_int, eqOk_str, natAbs_lit, List.contains_nil, den_gen, genS_nil, genS_cons, testR, isDic, itemsOf, List.all_cons, List.any_cons, id_eq, cast_lit, List.contains_cons, goes_nx, gives_ok, goes_ct, and_self, decide_not, not_false_eq_true, ne_eq]

theorem draws_ok {defs : List CF} {i : Nat} (h : defs[i]? = some cfDraws) (l : Nat) (c : Int) : ∃ xs : List Int, xs.length = 6 ∧ run GD defs (l + 1) i [.int c, .int 1000003, .int 6] = .ok ((true, .lst (xs.map .int)), .non) := by
  rw [run_s GD h]; exact draws_F GD _ c

def cfBox (i : Nat) : CF := ⟨3, 1, false, (.c (.set 1 (.lst .nil))
  (.c (.for_ (.n 2) (.ex (.v 0))
  (.c (.set 1 (.bin .add (.v 1) (.call i (.cons (.v 2) (.cons (.k (.int 1000003)) (.cons (.k (.int 6)) .nil))))))
  .e))
  (.c (.iff (.cmp .eq (.bi .len (.cons (.v 1) .nil)) (.k (.int 0)))
  (.c (.set 1 (.lst (.cons (.k (.int 11)) (.cons (.k (.int 5)) (.cons (.k (.int 2)) (.cons (.k (.int 7)) (.cons (.k (.int 31)) (.cons (.k (.int 101)) (.cons (.k (.int 997)) .nil)))))))))
  .e)
  .e)
  (.c (.ret (.dic (.cons (.k (.str [114, 111, 119])) (.v 1) (.cons (.k (.str [97, 116])) (.k (.int 0)) .nil))))
  .e))))⟩

theorem box_F (F : Nat → Fn) (i : Nat) (ns : List Int) (hn : ns.length ≤ 63)
    (hF : ∀ c : Int, ∃ xs : List Int, xs.length = 6 ∧ F i [.int c, .int 1000003, .int 6] = .ok ((true, .lst (xs.map .int)), .non)) :
    ∃ b : Bx, runF GD F (cfBox i) [.scr ns] = .ok ((true, b.d), .non) := by
  obtain ⟨ρ', h1, xs, g, hx, rfl⟩ := for_ixG (fun k ρ => ∃ (xs : List Int) (g : Option PV), xs.length = 6 * k ∧ ρ = [some (.imm (.scr ns)), some (.own (.lst (xs.map .int))), g])
    (forT GD F false (.n 2) (.c (.set 1 (.bin .add (.v 1) (.call i (.cons (.v 2) (.cons (.k (.int 1000003)) (.cons (.k (.int 6)) .nil)))))) .e))
    (ns.map D.int) [some (.imm (.scr ns)), some (.own (.lst [])), none] ⟨[], none, rfl, rfl⟩ (by
      rintro k ρ hk ⟨xs, g, hx, rfl⟩
      rw [List.length_map] at hk
      obtain ⟨ys, hy, e⟩ := hF ns[k]
      have hl : xs.length + ys.length ≤ 16777216 := by omega
      simp -implicitDefEqProofs only [forT, List.getElem_map, e, List.length_map, hl, ← List.map_append, den.eq_1, den.eq_2, den.eq_3, den.eq_4, den.eq_5, den.eq_6, den.eq_7, den.eq_8, den.eq_9, den.eq_10, den.eq_11, den.eq_12, den.eq_13, den.eq_14, den.eq_15, den.eq_16, den.eq_17, den.eq_18, den.eq_19, den.eq_20, den.eq_21, den.eq_22, den.eq_23, den.eq_24, den.eq_25, den.eq_26, den.eq_27, den.eq_33, den.eq_34, denB, denF, denR, denL, denD, denI, denT, denO, denS.eq_1, denS.eq_2, denS.eq_3, denS.eq_4, denS.eq_5, denS.eq_6, denS.eq_7, denS.eq_8, denS.eq_11, denS.eq_12, denS.eq_13, denS.eq_14, denS.eq_15, denS.eq_16, denS.eq_17, denBl_c, denBl_e, goB_nx, goB_rt, goB_ct, goB_bk, goF, ↓R.bind_bnd, R.bnd_ok, R.bnd_exc, R.bnd_bad, R.of_some, R.calm_ok, hvI, hvT, hvS, rd, rdH, fz, fzH, res, resAll, setV, setVs, bindT.eq_1, bindT.eq_2, bindTs.eq_1, bindTs.eq_2, wipe, Lit.d, List.getElem?_cons_zero, List.getElem?_cons_succ, List.set_cons_zero, List.set_cons_succ, binop, augop, cmpop, truth, indexD, biop, if_true, if_false, Bool.false_eq_true, Bool.true_and, Bool.and_true, Bool.false_and, Bool.and_false, List.length_cons, List.length_nil, Option.bind_some, Option.map_some, decide_true, decide_false, decide_eq_true_eq, Bool.not_true, Bool.not_false, Bool.or_false, Bool.false_or, Bool.or_true, Bool.true_or, reduceIte, beq_iff_eq, look, isKey_ss, isKey_ii, dkeys_s, dkeys_i, dkey0_s, dkey0_i, List.all_cons, List.all_nil, List.any_cons, List.any_nil, putD, hasKey_c, hasKey_n, putVs, List.cons_beq_cons, BEq.rfl, beq_self_eq_true, goR, endE, List.map_cons, List.map_nil, Nat.reduceBEq, Nat.reduceLeDiff, Nat.reduceEqDiff, Nat.reduceAdd, Nat.reduceMul, Nat.reduceLT, Nat.reduceSub, Int.reduceLT, Int.reduceLE, Int.reduceNeg, Int.reduceMul, Int.reduceAdd, Int.reduceSub, Int.reduceEq, Int.reduceBEq, Int.reduceNe, reduceCtorEq, Int.reduceToNat, Int.natAbs_natCast, Bool.or_self, Bool.and_self, line_lit, bne_self_eq_false, Bool.bne_true, Bool.bne_false, Int.reducePow, sm64_eq, smB_eq, isTy, isiOk, isLit, denS_for0, denS_whl, den_lc, mask, fzAll, toldEx, rep_1, rep_2, rep_3, eqOk_NONE, eqv_NONE, dep_int, dep_bl, dep_str, dep_non, eqv_int, eqv_bl, eqv_str2, eqOk_int, eqOk_str, natAbs_lit, List.contains_nil, den_gen, genS_nil, genS_cons, testR, isDic, itemsOf, List.all_cons, List.any_cons, id_eq, cast_lit, List.contains_cons, goes_nx, gives_ok, goes_ct, and_self, decide_not, not_false_eq_true, ne_eq]
      exact ⟨_, _, by rw [List.length_append]; omega, rfl⟩)
  rw [List.length_map] at hx
  rw [runF_def _ _ _ _ ⟨rfl, by simp [cfBox]⟩]
  by_cases hz : xs.length = 0
  · refine ⟨⟨[11, 5, 2, 7, 31, 101, 997], 0, by decide, by decide⟩, ?_⟩
    simp -implicitDefEqProofs only [cfBox, startE, List.replicate, List.cons_append, List.nil_append, isDic, itemsOf, h1, List.length_map, hz, den.eq_1, den.eq_2, den.eq_3, den.eq_4, den.eq_5, den.eq_6, den.eq_7, den.eq_8, den.eq_9, den.eq_10, den.eq_11, den.eq_12, den.eq_13, den.eq_14, den.eq_15, den.eq_16, den.eq_17, den.eq_18, den.eq_19, den.eq_20, den.eq_21, den.eq_22, den.eq_23, den.eq_24, den.eq_25, den.eq_26, den.eq_27, den.eq_33, den.eq_34, denB, denF, denR, denL, denD, denI, denT, denO, denS.eq_1, denS.eq_2, denS.eq_3, denS.eq_4, denS.eq_5, denS.eq_6, denS.eq_7, denS.eq_8, denS.eq_11, denS.eq_12, denS.eq_13, denS.eq_14, denS.eq_15, denS.eq_16, denS.eq_17, denBl_c, denBl_e, goB_nx, goB_rt, goB_ct, goB_bk, goF, ↓R.bind_bnd, R.bnd_ok, R.bnd_exc, R.bnd_bad, R.of_some, R.calm_ok, hvI, hvT, hvS, rd, rdH, fz, fzH, res, resAll, setV, setVs, bindT.eq_1, bindT.eq_2, bindTs.eq_1, bindTs.eq_2, wipe, Lit.d, List.getElem?_cons_zero, List.getElem?_cons_succ, List.set_cons_zero, List.set_cons_succ, binop, augop, cmpop, truth, indexD, biop, if_true, if_false, Bool.false_eq_true, Bool.true_and, Bool.and_true, Bool.false_and, Bool.and_false, List.length_cons, List.length_nil, Option.bind_some, Option.map_some, decide_true, decide_false, decide_eq_true_eq, Bool.not_true, Bool.not_false, Bool.or_false, Bool.false_or, Bool.or_true, Bool.true_or, reduceIte, beq_iff_eq, look, isKey_ss, isKey_ii, dkeys_s, dkeys_i, dkey0_s, dkey0_i, List.all_cons, List.all_nil, List.any_cons, List.any_nil, putD, hasKey_c, hasKey_n, putVs, List.cons_beq_cons, BEq.rfl, beq_self_eq_true, goR, endE, List.map_cons, List.map_nil, Nat.reduceBEq, Nat.reduceLeDiff, Nat.reduceEqDiff, Nat.reduceAdd, Nat.reduceMul, Nat.reduceLT, Nat.reduceSub, Int.reduceLT, Int.reduceLE, Int.reduceNeg, Int.reduceMul, Int.reduceAdd, Int.reduceSub, Int.reduceEq, Int.reduceBEq, Int.reduceNe, reduceCtorEq, Int.reduceToNat, Int.natAbs_natCast, Bool.or_self, Bool.and_self, line_lit, bne_self_eq_false, Bool.bne_true, Bool.bne_false, Int.reducePow, sm64_eq, smB_eq, isTy, isiOk, isLit, denS_for0, denS_whl, den_lc, mask, fzAll, toldEx, rep_1, rep_2, rep_3, eqOk_NONE, eqv_NONE, dep_int, dep_bl, dep_str, dep_non, eqv_int, eqv_bl, eqv_str2, eqOk_int, eqOk_str, natAbs_lit, List.contains_nil, den_gen, genS_nil, genS_cons, testR, isDic, itemsOf, List.all_cons, List.any_cons, id_eq, cast_lit, List.contains_cons, goes_nx, gives_ok, goes_ct, and_self, decide_not, not_false_eq_true, ne_eq]
    rfl
  · refine ⟨⟨xs, 0, by omega, by omega⟩, ?_⟩
    have hz' : ¬ ((xs.length : Nat) : Int) = 0 := by omega
    have hz2 : (((xs.length : Nat) : Int) == 0) = false := by simpa using hz'
    simp -implicitDefEqProofs only [cfBox, startE, List.replicate, List.cons_append, List.nil_append, isDic, itemsOf, h1, List.length_map, hz2, den.eq_1, den.eq_2, den.eq_3, den.eq_4, den.eq_5, den.eq_6, den.eq_7, den.eq_8, den.eq_9, den.eq_10, den.eq_11, den.eq_12, den.eq_13, den.eq_14, den.eq_15, den.eq_16, den.eq_17, den.eq_18, den.eq_19, den.eq_20, den.eq_21, den.eq_22, den.eq_23, den.eq_24, den.eq_25, den.eq_26, den.eq_27, den.eq_33, den.eq_34, denB, denF, denR, denL, denD, denI, denT, denO, denS.eq_1, denS.eq_2, denS.eq_3, denS.eq_4, denS.eq_5, denS.eq_6, denS.eq_7, denS.eq_8, denS.eq_11, denS.eq_12, denS.eq_13, denS.eq_14, denS.eq_15, denS.eq_16, denS.eq_17, denBl_c, denBl_e, goB_nx, goB_rt, goB_ct, goB_bk, goF, ↓R.bind_bnd, R.bnd_ok, R.bnd_exc, R.bnd_bad, R.of_some, R.calm_ok, hvI, hvT, hvS, rd, rdH, fz, fzH, res, resAll, setV, setVs, bindT.eq_1, bindT.eq_2, bindTs.eq_1, bindTs.eq_2, wipe, Lit.d, List.getElem?_cons_zero, List.getElem?_cons_succ, List.set_cons_zero, List.set_cons_succ, binop, augop, cmpop, truth, indexD, biop, if_true, if_false, Bool.false_eq_true, Bool.true_and, Bool.and_true, Bool.false_and, Bool.and_false, List.length_cons, List.length_nil, Option.bind_some, Option.map_some, decide_true, decide_false, decide_eq_true_eq, Bool.not_true, Bool.not_false, Bool.or_false, Bool.false_or, Bool.or_true, Bool.true_or, reduceIte, beq_iff_eq, look, isKey_ss, isKey_ii, dkeys_s, dkeys_i, dkey0_s, dkey0_i, List.all_cons, List.all_nil, List.any_cons, List.any_nil, putD, hasKey_c, hasKey_n, putVs, List.cons_beq_cons, BEq.rfl, beq_self_eq_true, goR, endE, List.map_cons, List.map_nil, Nat.reduceBEq, Nat.reduceLeDiff, Nat.reduceEqDiff, Nat.reduceAdd, Nat.reduceMul, Nat.reduceLT, Nat.reduceSub, Int.reduceLT, Int.reduceLE, Int.reduceNeg, Int.reduceMul, Int.reduceAdd, Int.reduceSub, Int.reduceEq, Int.reduceBEq, Int.reduceNe, reduceCtorEq, Int.reduceToNat, Int.natAbs_natCast, Bool.or_self, Bool.and_self, line_lit, bne_self_eq_false, Bool.bne_true, Bool.bne_false, Int.reducePow, sm64_eq, smB_eq, isTy, isiOk, isLit, denS_for0, denS_whl, den_lc, mask, fzAll, toldEx, rep_1, rep_2, rep_3, eqOk_NONE, eqv_NONE, dep_int, dep_bl, dep_str, dep_non, eqv_int, eqv_bl, eqv_str2, eqOk_int, eqOk_str, natAbs_lit, List.contains_nil, den_gen, genS_nil, genS_cons, testR, isDic, itemsOf, List.all_cons, List.any_cons, id_eq, cast_lit, List.contains_cons, goes_nx, gives_ok, goes_ct, and_self, decide_not, not_false_eq_true, ne_eq]
    rfl

theorem box_ok {defs : List CF} {i j : Nat} (h : defs[i]? = some cfDraws) (h' : defs[j]? = some (cfBox i)) (l : Nat) (ns : List Int) (hn : ns.length ≤ 63) :
    ∃ b : Bx, run GD defs (l + 2) j [.scr ns] = .ok ((true, b.d), .non) := by
  rw [run_s GD h']; exact box_F GD _ i ns hn fun c => draws_ok GD h l c

/-! ### a while over one slot, or some -/
theorem set_self (ρ : Env) (i : Nat) (v : Option PV) (h : ρ[i]? = some v) : ρ.set i v = ρ := by
  apply List.ext_getElem?
  intro j
  by_cases hj : i = j
  · subst hj
    have hl : i < ρ.length := by
      rcases Nat.lt_or_ge i ρ.length with hl | hl
      · exact hl
      · rw [List.getElem?_eq_none hl] at h; cases h
    rw [List.getElem?_set_self hl, h]
  · rw [List.getElem?_set_ne hj]
theorem whl_slot {S : Type} (ρ : Env) (i : Nat) (val : S → PV) (P : S → Prop) (go : S → Bool) (nxt : S → S) (mes : S → Nat)
    (c : Env → R (Bool × Env)) (turn : Env → R FR)
    (hc : ∀ s, P s → c (ρ.set i (some (val s))) = .ok (go s, ρ.set i (some (val s))))
    (ht : ∀ s, P s → go s = true → turn (ρ.set i (some (val s))) = .ok (.nx (ρ.set i (some (val (nxt s))))))
    (hP : ∀ s, P s → go s = true → P (nxt s) ∧ mes (nxt s) < mes s)
    (s : S) (h0 : ρ[i]? = some (some (val s))) (hs : P s) (m n : Nat) (hm : mes s ≤ m) (hn : m < n) :
    whlLoop c turn n ρ = .ok (.nx (ρ.set i (some (val (wl go nxt m s))))) ∧ P (wl go nxt m s) ∧ go (wl go nxt m s) = false := by
  have h := whl_wl (fun s => ρ.set i (some (val s))) P go nxt mes c turn hc (fun s a b => ⟨ht s a b, hP s a b⟩) m n s hs hm hn
  rw [set_self ρ i _ h0] at h
  exact h

theorem atI_lastD (xs : List Int) (h : xs ≠ []) : atI (xs.map D.int) (-1) = some (.int (xs.getLastD 0)) := by
  have h' : xs.map D.int ≠ [] := by simpa using h
  rw [atI_last _ h', List.getLast_map]
  rw [List.getLastD_eq_getLast?, List.getLast?_eq_some_getLast h]; rfl
theorem lastD_snoc (xs : List Int) (a : Int) : (xs ++ [a]).getLastD 0 = a := by simp [List.getLastD_eq_getLast?]
theorem lastD_snoc2 (xs : List Int) (a b : Int) : (xs ++ [a, b]).getLastD 0 = b := by simp [List.getLastD_eq_getLast?]
theorem plain_ints (n : Nat) (xs : List Int) (h : xs.length ≤ line) : Plain (n + 1) (.lst (xs.map .int)) := by
  refine ⟨by rw [List.length_map]; exact h, fun x hx => ?_⟩
  obtain ⟨a, _, rfl⟩ := List.mem_map.mp hx
  cases n <;> trivial
theorem is_ints {defs : List CF} {i : Nat} (h : defs[i]? = some (cfIs i)) (l : Nat) (xs : List Int) (hl : xs.length ≤ line) :
    run GD defs (l + 2) i [.lst (xs.map .int), .lst (xs.map .int)] = .ok ((false, .bl true), .non) :=
  is_ok GD h (l + 2) 1 _ (plain_ints 0 xs hl) (by omega)
theorem next_ok {defs : List CF} {i : Nat} (h : defs[i]? = some cfNext) (l : Nat) (b : Bx) (m : Int) (hm : 0 < m) :
    run GD defs (l + 1) i [b.d, .int m] = .ok ((false, .int (b.v m)), b.nx.d) := by
  rw [run_s GD h]; exact next_F GD _ b m hm
end
end Kn

end

section
/-! K, more of loops and comprehensions -/
namespace Kn
theorem unwipe_wipe (ρ₀ ρ : Env) (own : List Nat) : unwipe ρ₀ (wipe ρ own) own = unwipe ρ₀ ρ own := by
  apply List.ext_getElem?
  intro i
  by_cases hi : i < ρ.length
  · rw [u_unwipe_get _ _ _ _ (by rw [u_wipe_len]; exact hi), u_unwipe_get _ _ _ _ hi]
    split
    · rfl
    · rename_i h; rw [u_wipe_get _ _ _ hi, if_neg h]
  · rw [List.getElem?_eq_none (by rw [u_unwipe_len, u_wipe_len]; omega), List.getElem?_eq_none (by rw [u_unwipe_len]; omega)]
theorem for_foldI {S : Type} (E : S → Env → Prop) (st : S → D → S) (turn : D → Env → R FR) (ds : List D)
    (h : ∀ s d ρ, d ∈ ds → E s ρ → Goes (turn d ρ) (E (st s d))) (s : S) (ρ : Env) (h0 : E s ρ) :
    ∃ ρ', forLoop turn ds ρ = .ok (.nx ρ') ∧ E (ds.foldl st s) ρ' := by
  induction ds generalizing s ρ with
  | nil => exact ⟨ρ, rfl, h0⟩
  | cons d ds ih =>
    obtain ⟨ρ1, h1, h2⟩ := goes_ex (h s d ρ (List.mem_cons_self ..) h0)
    obtain ⟨ρ2, h3, h4⟩ := ih (fun s d ρ hd => h s d ρ (List.mem_cons_of_mem _ hd)) (st s d) ρ1 h2
    refine ⟨ρ2, ?_, h4⟩
    rw [forLoop_c]
    rcases h1 with h1 | h1 <;> (rw [h1]; exact h3)
/-- a comprehension whose turns draw from the box -/
def GivesB {α : Type} (own : List Nat) (W : Bx → Env) (f : α → D) (p : α → Prop) (r : R (Option D × Env)) : Prop := match r with
  | .ok x => ∃ a b, x.1 = some (f a) ∧ p a ∧ wipe x.2 own = W b
  | _ => False
theorem givesB_ok {α : Type} (own : List Nat) (W : Bx → Env) (f : α → D) (p : α → Prop) (x : Option D × Env) : GivesB own W f p (.ok x) = ∃ a b, x.1 = some (f a) ∧ p a ∧ wipe x.2 own = W b := rfl
theorem lc_box {α : Type} (GD : Nat → D) (F : Nat → Fn) (own : List Nat) (t : TG) (c : CO) (e : CE) (ρ1 : Env) (items : List D) (W : Bx → Env) (f : α → D) (p : α → Prop) (b0 : Bx)
    (hl : items.length ≤ line) (hw : wipe ρ1 own = W b0)
    (h : ∀ d b, d ∈ items → GivesB own W f p (lcT GD F t c e d (W b))) :
    ∃ (as : List α) (b : Bx), lcS GD F own t c e items ρ1 = .ok (.tmp (.lst (as.map f)), unwipe ρ1 (W b) own) ∧ as.length = items.length ∧ ∀ a ∈ as, p a := by
  have main : ∀ (items : List D) (hh : ∀ d b, d ∈ items → GivesB own W f p (lcT GD F t c e d (W b))) (ρ : Env) (b0 : Bx) (acc : List D), wipe ρ own = W b0 →
      ∃ (as : List α) (b : Bx) (ρ' : Env), lcLoop (fun d ρ₁ => lcT GD F t c e d (wipe ρ₁ own)) items ρ acc = .ok (acc ++ as.map f, ρ') ∧ wipe ρ' own = W b ∧ as.length = items.length ∧ ∀ a ∈ as, p a := by
    intro items
    induction items with
    | nil => intro hh ρ b0 acc hw; exact ⟨[], b0, ρ, by simp [lcLoop], hw, rfl, by simp⟩
    | cons d ds ih =>
      intro hh ρ b0 acc hw
      have h1 := hh d b0 (List.mem_cons_self ..)
      simp -implicitDefEqProofs only [lcLoop, hw]
      cases hr : lcT GD F t c e d (W b0) with
      | bad => rw [hr] at h1; exact h1.elim
      | exc c p => rw [hr] at h1; exact h1.elim
      | ok x =>
        rw [hr] at h1
        obtain ⟨a, b, e1, e2, e3⟩ := h1
        obtain ⟨as, b', ρ', q1, q2, q3, q4⟩ := ih (fun d b hd => hh d b (List.mem_cons_of_mem _ hd)) x.2 b (acc ++ [f a]) e3
        refine ⟨a :: as, b', ρ', ?_, q2, by rw [List.length_cons, q3, List.length_cons], ?_⟩
        · simp -implicitDefEqProofs only [R.bind_ok, e1, q1, List.map_cons, List.append_assoc, List.singleton_append]
        · intro z hz
          rcases List.mem_cons.mp hz with rfl | hz
          · exact e2
          · exact q4 z hz
  obtain ⟨as, b, ρ', q1, q2, q3, q4⟩ := main items h (wipe ρ1 own) b0 [] (by rw [wipe_wipe]; exact hw)
  refine ⟨as, b, ?_, q3, q4⟩
  simp -implicitDefEqProofs only [lcS, if_pos hl]
  rw [q1]
  simp -implicitDefEqProofs only [R.bind_ok, R.calm_ok, List.nil_append, ← q2, unwipe_wipe]
theorem rep_single {α : Type} (k : Nat) (x : α) : rep k [x] = List.replicate k x := by
  simp [rep, List.flatten_replicate_singleton]
theorem rep_len {α : Type} (k : Nat) (xs : List α) : (rep k xs).length = k * xs.length := by
  simp [rep]
theorem rep_succ {α : Type} (k : Nat) (xs : List α) : rep (k + 1) xs = xs ++ rep k xs := by
  simp [rep, List.replicate_succ]
theorem rep_get {α : Type} (k : Nat) (xs : List α) (i : Nat) (h : i < k * xs.length) (h' : i % xs.length < xs.length) : (rep k xs)[i]'(by rw [rep_len]; exact h) = xs[i % xs.length] := by
  induction k generalizing i with
  | zero => omega
  | succ k ih =>
    have e : (rep (k + 1) xs)[i]'(by rw [rep_len]; exact h) = (xs ++ rep k xs)[i]'(by rw [← rep_succ, rep_len]; exact h) := by
      first | (congr 1; done) | (congr 1; exact rep_succ k xs)
    rw [e]
    by_cases hi : i < xs.length
    · rw [List.getElem_append_left hi]
      congr 1; rw [Nat.mod_eq_of_lt hi]
    · rw [List.getElem_append_right (by omega)]
      have hm : i % xs.length = (i - xs.length) % xs.length := by rw [Nat.mod_eq_sub_mod (by omega)]
      rw [ih (i - xs.length) (by rw [Nat.succ_mul] at h; omega) (by rw [← hm]; exact h')]
      congr 1; exact hm.symm
theorem allInt_map (xs : List Int) : allInt (xs.map .int) = some xs := by
  induction xs with
  | nil => rfl
  | cons a r ih => rw [List.map_cons, allInt, ih]; rfl
theorem allStr_map (xs : List (List Nat)) : allStr (xs.map .str) = some xs := by
  induction xs with
  | nil => rfl
  | cons a r ih => rw [List.map_cons, allStr, ih]; rfl
/-- _law_one -/
def cfOne (i : Nat) : CF := ⟨2, 2, true, (.c (.ret (.ix (.v 1) (.cio i 0 (.cons (.bi .len (.cons (.v 1) .nil)) .nil))))
  .e)⟩
theorem one_ok {GD : Nat → D} {defs : List CF} {i j : Nat} (h : defs[i]? = some cfNext) (h' : defs[j]? = some (cfOne i)) (l : Nat) (b : Bx) (xs : List D) (hx : xs ≠ []) :
    ∃ y ∈ xs, run GD defs (l + 2) j [b.d, .lst xs] = .ok ((false, y), b.nx.d) := by
  have hp : 0 < xs.length := List.length_pos_iff.mpr hx
  have n := next_ok GD h l b (xs.length : Int) (by omega)
  have v1 := b.v_nn (xs.length : Int) (by omega)
  have v2 := b.v_lt (xs.length : Int) (by omega)
  have e := atI_nn xs _ v1 v2
  refine ⟨_, List.getElem_mem (by omega : (b.v (xs.length : Int)).toNat < xs.length), ?_⟩
  rw [run_s GD h', runF_def _ _ _ _ ⟨rfl, by simp [cfOne]⟩]
  simp -implicitDefEqProofs only [cfOne, startE, List.replicate, List.cons_append, List.nil_append, n, e, den.eq_1, den.eq_2, den.eq_3, den.eq_4, den.eq_5, den.eq_6, den.eq_7, den.eq_8, den.eq_9, den.eq_10, den.eq_11, den.eq_12, den.eq_13, den.eq_14, den.eq_15, den.eq_16, den.eq_17, den.eq_18, den.eq_19, den.eq_20, den.eq_21, den.eq_22, den.eq_23, den.eq_24, den.eq_25, den.eq_26, den.eq_27, den.eq_33, den.eq_34, denB, denF, denR, denL, denD, denI, denT, denO, denS.eq_1, denS.eq_2, denS.eq_3, denS.eq_4, denS.eq_5, denS.eq_6, denS.eq_7, denS.eq_8, denS.eq_11, denS.eq_12, denS.eq_13, denS.eq_14, denS.eq_15, denS.eq_16, denS.eq_17, denBl_c, denBl_e, goB_nx, goB_rt, goB_ct, goB_bk, goF, ↓R.bind_bnd, R.bnd_ok, R.bnd_exc, R.bnd_bad, R.of_some, R.calm_ok, hvI, hvT, hvS, rd, rdH, fz, fzH, res, resAll, setV, setVs, bindT.eq_1, bindT.eq_2, bindTs.eq_1, bindTs.eq_2, wipe, Lit.d, List.getElem?_cons_zero, List.getElem?_cons_succ, List.set_cons_zero, List.set_cons_succ, binop, augop, cmpop, truth, indexD, biop, if_true, if_false, Bool.false_eq_true, Bool.true_and, Bool.and_true, Bool.false_and, Bool.and_false, List.length_cons, List.length_nil, Option.bind_some, Option.map_some, decide_true, decide_false, decide_eq_true_eq, Bool.not_true, Bool.not_false, Bool.or_false, Bool.false_or, Bool.or_true, Bool.true_or, reduceIte, beq_iff_eq, look, isKey_ss, isKey_ii, dkeys_s, dkeys_i, dkey0_s, dkey0_i, List.all_cons, List.all_nil, List.any_cons, List.any_nil, putD, hasKey_c, hasKey_n, putVs, List.cons_beq_cons, BEq.rfl, beq_self_eq_true, goR, endE, List.map_cons, List.map_nil, Nat.reduceBEq, Nat.reduceLeDiff, Nat.reduceEqDiff, Nat.reduceAdd, Nat.reduceMul, Nat.reduceLT, Nat.reduceSub, Int.reduceLT, Int.reduceLE, Int.reduceNeg, Int.reduceMul, Int.reduceAdd, Int.reduceSub, Int.reduceEq, Int.reduceBEq, Int.reduceNe, reduceCtorEq, Int.reduceToNat, Int.natAbs_natCast, Bool.or_self, Bool.and_self, line_lit, bne_self_eq_false, Bool.bne_true, Bool.bne_false, Int.reducePow, sm64_eq, smB_eq, isTy, isiOk, isLit, denS_for0, denS_whl, den_lc, mask, fzAll, toldEx, rep_1, rep_2, rep_3, eqOk_NONE, eqv_NONE, dep_int, dep_bl, dep_str, dep_non, eqv_int, eqv_bl, eqv_str2, eqOk_int, eqOk_str, natAbs_lit, List.contains_nil, den_gen, genS_nil, genS_cons, testR, isDic, itemsOf, List.all_cons, List.any_cons, id_eq, cast_lit, List.contains_cons, goes_nx, gives_ok, goes_ct, and_self, decide_not, not_false_eq_true, ne_eq]
theorem den_and_bl {GD : Nat → D} {F : Nat → Fn} {a b : CE} {ρ : Env} {p q : Bool} (h1 : den GD F a ρ = .ok (.imm (.bl p), ρ)) (h2 : den GD F b ρ = .ok (.imm (.bl q), ρ)) :
    den GD F (.and a b) ρ = .ok (.imm (.bl (p && q)), ρ) := by
  rw [den.eq_11, h1]
  cases p
  · rfl
  · exact h2
end Kn

end

section
namespace Kn.L
abbrev Tr := Int × Int
def pr (p : Tr) : D := .tup [.int p.1, .int p.2]
def okT (p : Tr) : Prop := 1 ≤ p.1 ∧ p.1 ≤ 1000 ∧ 1 ≤ p.2 ∧ p.2 ≤ 1000
def rowD (p : Tr) (row : Int) : D := if row < p.1 then .non else .int ((row - p.1) % p.2 + 1)
section
variable (F : Nat → Fn)
/-! ### what tracks are -/
theorem pair_test (a b : Int) (ha : 1 ≤ a) (ha2 : a ≤ 1000) (hb : 1 ≤ b) (hb2 : b ≤ 1000) (W : Env) (h : W.length = 3) :
    genS GD F (.and (.isi [.int] (.v 2)) (.and (.nt (.isi [.bool] (.v 2))) (.chn .le .le (.k (.int 1)) (.v 2) (.k (.int 1000))))) 2 W [.int a, .int b] = .ok [true, true] := by
  obtain ⟨r0, r1, r2, rfl⟩ : ∃ r0 r1 r2, W = [r0, r1, r2] := by
    match W, h with
    | [a, b, c], _ => exact ⟨a, b, c, rfl⟩
  simp -implicitDefEqProofs only [ha, ha2, hb, hb2, den.eq_1, den.eq_2, den.eq_3, den.eq_4, den.eq_5, den.eq_6, den.eq_7, den.eq_8, den.eq_9, den.eq_10, den.eq_11, den.eq_12, den.eq_13, den.eq_14, den.eq_15, den.eq_16, den.eq_17, den.eq_18, den.eq_19, den.eq_20, den.eq_21, den.eq_22, den.eq_23, den.eq_24, den.eq_25, den.eq_26, den.eq_27, den.eq_33, den.eq_34, denB, denF, denR, denL, denD, denI, denT, denO, denS.eq_1, denS.eq_2, denS.eq_3, denS.eq_4, denS.eq_5, denS.eq_6, denS.eq_7, denS.eq_8, denS.eq_11, denS.eq_12, denS.eq_13, denS.eq_14, denS.eq_15, denS.eq_16, denS.eq_17, denBl_c, denBl_e, goB_nx, goB_rt, goB_ct, goB_bk, goF, ↓R.bind_bnd, R.bnd_ok, R.bnd_exc, R.bnd_bad, R.of_some, R.calm_ok, hvI, hvT, hvS, rd, rdH, fz, fzH, res, resAll, setV, setVs, bindT.eq_1, bindT.eq_2, bindTs.eq_1, bindTs.eq_2, wipe, Lit.d, List.getElem?_cons_zero, List.getElem?_cons_succ, List.set_cons_zero, List.set_cons_succ, binop, augop, cmpop, truth, indexD, biop, if_true, if_false, Bool.false_eq_true, Bool.true_and, Bool.and_true, Bool.false_and, Bool.and_false, List.length_cons, List.length_nil, Option.bind_some, Option.map_some, decide_true, decide_false, decide_eq_true_eq, Bool.not_true, Bool.not_false, Bool.or_false, Bool.false_or, Bool.or_true, Bool.true_or, reduceIte, beq_iff_eq, look, isKey_ss, isKey_ii, dkeys_s, dkeys_i, dkey0_s, dkey0_i, List.all_cons, List.all_nil, List.any_cons, List.any_nil, putD, hasKey_c, hasKey_n, putVs, List.cons_beq_cons, BEq.rfl, beq_self_eq_true, goR, endE, List.map_cons, List.map_nil, Nat.reduceBEq, Nat.reduceLeDiff, Nat.reduceEqDiff, Nat.reduceAdd, Nat.reduceMul, Nat.reduceLT, Nat.reduceSub, Int.reduceLT, Int.reduceLE, Int.reduceNeg, Int.reduceMul, Int.reduceAdd, Int.reduceSub, Int.reduceEq, Int.reduceBEq, Int.reduceNe, reduceCtorEq, Int.reduceToNat, Int.natAbs_natCast, Bool.or_self, Bool.and_self, line_lit, bne_self_eq_false, Bool.bne_true, Bool.bne_false, Int.reducePow, sm64_eq, smB_eq, isTy, isiOk, isLit, denS_for0, denS_whl, den_lc, mask, fzAll, toldEx, rep_1, rep_2, rep_3, eqOk_NONE, eqv_NONE, dep_int, dep_bl, dep_str, dep_non, eqv_int, eqv_bl, eqv_str2, eqOk_int, eqOk_str, natAbs_lit, List.contains_nil, den_gen, genS_nil, genS_cons, testR, isDic, itemsOf, List.all_cons, List.any_cons, id_eq, cast_lit, List.contains_cons, goes_nx, gives_ok, goes_ct, and_self, decide_not, not_false_eq_true, ne_eq]
theorem is_good (ts : List Tr) (h0 : 1 ≤ ts.length) (h8 : ts.length ≤ 8) (ht : ∀ p ∈ ts, okT p) : runF GD F c_is_tracks [.tup (ts.map pr)] = .ok ((false, .bl true), .non) := by
  rw [runF_def _ _ _ _ ⟨rfl, by decide⟩]
  obtain ⟨ρ', e, g1, g2, h2⟩ := for_invG (fun ρ => ∃ g1 g2 : Option PV, ρ = [some (.imm (.tup (ts.map pr))), g1, g2]) (forT GD F false (.n 1) (.c (.iff (.or (.nt (.tr (.isi [.tuple] (.v 1)))) (.cmp .ne (.bi .len (.cons (.v 1) .nil)) (.k (.int 2)))) (.c (.ret (.k (.bl false))) .e) .e) (.c (.iff (.nt (.tr (.gen true [] 2 (.v 1) (.and (.isi [.int] (.v 2)) (.and (.nt (.isi [.bool] (.v 2))) (.chn .le .le (.k (.int 1)) (.v 2) (.k (.int 1000)))))))) (.c (.ret (.k (.bl false))) .e) .e) .e))) (ts.map pr) [some (.imm (.tup (ts.map pr))), none, none] ⟨none, none, rfl⟩ (by
    rintro d ρ hd ⟨g1, g2, rfl⟩
    obtain ⟨p, hp, rfl⟩ := List.mem_map.mp hd
    obtain ⟨q1, q2, q3, q4⟩ := ht p hp
    obtain ⟨a, b⟩ := p
    simp only at q1 q2 q3 q4
    simp -implicitDefEqProofs only [forT, pr, q1, q2, q3, q4, List.any_nil, List.all_nil, den.eq_1, den.eq_2, den.eq_3, den.eq_4, den.eq_5, den.eq_6, den.eq_7, den.eq_8, den.eq_9, den.eq_10, den.eq_11, den.eq_12, den.eq_13, den.eq_14, den.eq_15, den.eq_16, den.eq_17, den.eq_18, den.eq_19, den.eq_20, den.eq_21, den.eq_22, den.eq_23, den.eq_24, den.eq_25, den.eq_26, den.eq_27, den.eq_33, den.eq_34, denB, denF, denR, denL, denD, denI, denT, denO, denS.eq_1, denS.eq_2, denS.eq_3, denS.eq_4, denS.eq_5, denS.eq_6, denS.eq_7, denS.eq_8, denS.eq_11, denS.eq_12, denS.eq_13, denS.eq_14, denS.eq_15, denS.eq_16, denS.eq_17, denBl_c, denBl_e, goB_nx, goB_rt, goB_ct, goB_bk, goF, ↓R.bind_bnd, R.bnd_ok, R.bnd_exc, R.bnd_bad, R.of_some, R.calm_ok, hvI, hvT, hvS, rd, rdH, fz, fzH, res, resAll, setV, setVs, bindT.eq_1, bindT.eq_2, bindTs.eq_1, bindTs.eq_2, wipe, Lit.d, List.getElem?_cons_zero, List.getElem?_cons_succ, List.set_cons_zero, List.set_cons_succ, binop, augop, cmpop, truth, indexD, biop, if_true, if_false, Bool.false_eq_true, Bool.true_and, Bool.and_true, Bool.false_and, Bool.and_false, List.length_cons, List.length_nil, Option.bind_some, Option.map_some, decide_true, decide_false, decide_eq_true_eq, Bool.not_true, Bool.not_false, Bool.or_false, Bool.false_or, Bool.or_true, Bool.true_or, reduceIte, beq_iff_eq, look, isKey_ss, isKey_ii, dkeys_s, dkeys_i, dkey0_s, dkey0_i, List.all_cons, List.all_nil, List.any_cons, List.any_nil, putD, hasKey_c, hasKey_n, putVs, List.cons_beq_cons, BEq.rfl, beq_self_eq_true, goR, endE, List.map_cons, List.map_nil, Nat.reduceBEq, Nat.reduceLeDiff, Nat.reduceEqDiff, Nat.reduceAdd, Nat.reduceMul, Nat.reduceLT, Nat.reduceSub, Int.reduceLT, Int.reduceLE, Int.reduceNeg, Int.reduceMul, Int.reduceAdd, Int.reduceSub, Int.reduceEq, Int.reduceBEq, Int.reduceNe, reduceCtorEq, Int.reduceToNat, Int.natAbs_natCast, Bool.or_self, Bool.and_self, line_lit, bne_self_eq_false, Bool.bne_true, Bool.bne_false, Int.reducePow, sm64_eq, smB_eq, isTy, isiOk, isLit, denS_for0, denS_whl, den_lc, mask, fzAll, toldEx, rep_1, rep_2, rep_3, eqOk_NONE, eqv_NONE, dep_int, dep_bl, dep_str, dep_non, eqv_int, eqv_bl, eqv_str2, eqOk_int, eqOk_str, natAbs_lit, List.contains_nil, den_gen, genS_nil, genS_cons, testR, isDic, itemsOf, List.all_cons, List.any_cons, id_eq, cast_lit, List.contains_cons, goes_nx, gives_ok, goes_ct, and_self, decide_not, not_false_eq_true, ne_eq]
    exact ⟨_, _, rfl⟩)
  subst h2
  have c1 : (1 : Int) ≤ (ts.length : Nat) := by omega
  have c2 : ((ts.length : Nat) : Int) ≤ 8 := by omega
  simp -implicitDefEqProofs only [c_is_tracks, startE, List.replicate, List.cons_append, List.nil_append, List.length_map, c1, c2, e, List.any_nil, den.eq_1, den.eq_2, den.eq_3, den.eq_4, den.eq_5, den.eq_6, den.eq_7, den.eq_8, den.eq_9, den.eq_10, den.eq_11, den.eq_12, den.eq_13, den.eq_14, den.eq_15, den.eq_16, den.eq_17, den.eq_18, den.eq_19, den.eq_20, den.eq_21, den.eq_22, den.eq_23, den.eq_24, den.eq_25, den.eq_26, den.eq_27, den.eq_33, den.eq_34, denB, denF, denR, denL, denD, denI, denT, denO, denS.eq_1, denS.eq_2, denS.eq_3, denS.eq_4, denS.eq_5, denS.eq_6, denS.eq_7, denS.eq_8, denS.eq_11, denS.eq_12, denS.eq_13, denS.eq_14, denS.eq_15, denS.eq_16, denS.eq_17, denBl_c, denBl_e, goB_nx, goB_rt, goB_ct, goB_bk, goF, ↓R.bind_bnd, R.bnd_ok, R.bnd_exc, R.bnd_bad, R.of_some, R.calm_ok, hvI, hvT, hvS, rd, rdH, fz, fzH, res, resAll, setV, setVs, bindT.eq_1, bindT.eq_2, bindTs.eq_1, bindTs.eq_2, wipe, Lit.d, List.getElem?_cons_zero, List.getElem?_cons_succ, List.set_cons_zero, List.set_cons_succ, binop, augop, cmpop, truth, indexD, biop, if_true, if_false, Bool.false_eq_true, Bool.true_and, Bool.and_true, Bool.false_and, Bool.and_false, List.length_cons, List.length_nil, Option.bind_some, Option.map_some, decide_true, decide_false, decide_eq_true_eq, Bool.not_true, Bool.not_false, Bool.or_false, Bool.false_or, Bool.or_true, Bool.true_or, reduceIte, beq_iff_eq, look, isKey_ss, isKey_ii, dkeys_s, dkeys_i, dkey0_s, dkey0_i, List.all_cons, List.all_nil, List.any_cons, List.any_nil, putD, hasKey_c, hasKey_n, putVs, List.cons_beq_cons, BEq.rfl, beq_self_eq_true, goR, endE, List.map_cons, List.map_nil, Nat.reduceBEq, Nat.reduceLeDiff, Nat.reduceEqDiff, Nat.reduceAdd, Nat.reduceMul, Nat.reduceLT, Nat.reduceSub, Int.reduceLT, Int.reduceLE, Int.reduceNeg, Int.reduceMul, Int.reduceAdd, Int.reduceSub, Int.reduceEq, Int.reduceBEq, Int.reduceNe, reduceCtorEq, Int.reduceToNat, Int.natAbs_natCast, Bool.or_self, Bool.and_self, line_lit, bne_self_eq_false, Bool.bne_true, Bool.bne_false, Int.reducePow, sm64_eq, smB_eq, isTy, isiOk, isLit, denS_for0, denS_whl, den_lc, mask, fzAll, toldEx, rep_1, rep_2, rep_3, eqOk_NONE, eqv_NONE, dep_int, dep_bl, dep_str, dep_non, eqv_int, eqv_bl, eqv_str2, eqOk_int, eqOk_str, natAbs_lit, List.contains_nil, den_gen, genS_nil, genS_cons, testR, isDic, itemsOf, List.all_cons, List.any_cons, id_eq, cast_lit, List.contains_cons, goes_nx, gives_ok, goes_ct, and_self, decide_not, not_false_eq_true, ne_eq]
/-! ### rows of a track -/
theorem row_F (p : Tr) (row : Int) (hm : 1 ≤ p.2) : runF GD F c_row_in [pr p, .int row] = .ok ((false, rowD p row), .non) := by
  rw [runF_def _ _ _ _ ⟨rfl, by decide⟩]
  obtain ⟨a, b⟩ := p
  simp only at hm
  have hb : ¬ b = 0 := by omega
  by_cases c : row < a
  · simp -implicitDefEqProofs only [c_row_in, startE, List.replicate, List.cons_append, List.nil_append, pr, rowD, c, den.eq_1, den.eq_2, den.eq_3, den.eq_4, den.eq_5, den.eq_6, den.eq_7, den.eq_8, den.eq_9, den.eq_10, den.eq_11, den.eq_12, den.eq_13, den.eq_14, den.eq_15, den.eq_16, den.eq_17, den.eq_18, den.eq_19, den.eq_20, den.eq_21, den.eq_22, den.eq_23, den.eq_24, den.eq_25, den.eq_26, den.eq_27, den.eq_33, den.eq_34, denB, denF, denR, denL, denD, denI, denT, denO, denS.eq_1, denS.eq_2, denS.eq_3, denS.eq_4, denS.eq_5, denS.eq_6, denS.eq_7, denS.eq_8, denS.eq_11, denS.eq_12, denS.eq_13, denS.eq_14, denS.eq_15, denS.eq_16, denS.eq_17, denBl_c, denBl_e, goB_nx, goB_rt, goB_ct, goB_bk, goF, ↓R.bind_bnd, R.bnd_ok, R.bnd_exc, R.bnd_bad, R.of_some, R.calm_ok, hvI, hvT, hvS, rd, rdH, fz, fzH, res, resAll, setV, setVs, bindT.eq_1, bindT.eq_2, bindTs.eq_1, bindTs.eq_2, wipe, Lit.d, List.getElem?_cons_zero, List.getElem?_cons_succ, List.set_cons_zero, List.set_cons_succ, binop, augop, cmpop, truth, indexD, biop, if_true, if_false, Bool.false_eq_true, Bool.true_and, Bool.and_true, Bool.false_and, Bool.and_false, List.length_cons, List.length_nil, Option.bind_some, Option.map_some, decide_true, decide_false, decide_eq_true_eq, Bool.not_true, Bool.not_false, Bool.or_false, Bool.false_or, Bool.or_true, Bool.true_or, reduceIte, beq_iff_eq, look, isKey_ss, isKey_ii, dkeys_s, dkeys_i, dkey0_s, dkey0_i, List.all_cons, List.all_nil, List.any_cons, List.any_nil, putD, hasKey_c, hasKey_n, putVs, List.cons_beq_cons, BEq.rfl, beq_self_eq_true, goR, endE, List.map_cons, List.map_nil, Nat.reduceBEq, Nat.reduceLeDiff, Nat.reduceEqDiff, Nat.reduceAdd, Nat.reduceMul, Nat.reduceLT, Nat.reduceSub, Int.reduceLT, Int.reduceLE, Int.reduceNeg, Int.reduceMul, Int.reduceAdd, Int.reduceSub, Int.reduceEq, Int.reduceBEq, Int.reduceNe, reduceCtorEq, Int.reduceToNat, Int.natAbs_natCast, Bool.or_self, Bool.and_self, line_lit, bne_self_eq_false, Bool.bne_true, Bool.bne_false, Int.reducePow, sm64_eq, smB_eq, isTy, isiOk, isLit, denS_for0, denS_whl, den_lc, mask, fzAll, toldEx, rep_1, rep_2, rep_3, eqOk_NONE, eqv_NONE, dep_int, dep_bl, dep_str, dep_non, eqv_int, eqv_bl, eqv_str2, eqOk_int, eqOk_str, natAbs_lit, List.contains_nil, den_gen, genS_nil, genS_cons, testR, isDic, itemsOf, List.all_cons, List.any_cons, id_eq, cast_lit, List.contains_cons, goes_nx, gives_ok, goes_ct, and_self, decide_not, not_false_eq_true, ne_eq]
  · have e : (row - a).fmod b = (row - a) % b := Int.fmod_eq_emod_of_nonneg _ (by omega)
    simp -implicitDefEqProofs only [c_row_in, startE, List.replicate, List.cons_append, List.nil_append, pr, rowD, c, hb, e, den.eq_1, den.eq_2, den.eq_3, den.eq_4, den.eq_5, den.eq_6, den.eq_7, den.eq_8, den.eq_9, den.eq_10, den.eq_11, den.eq_12, den.eq_13, den.eq_14, den.eq_15, den.eq_16, den.eq_17, den.eq_18, den.eq_19, den.eq_20, den.eq_21, den.eq_22, den.eq_23, den.eq_24, den.eq_25, den.eq_26, den.eq_27, den.eq_33, den.eq_34, denB, denF, denR, denL, denD, denI, denT, denO, denS.eq_1, denS.eq_2, denS.eq_3, denS.eq_4, denS.eq_5, denS.eq_6, denS.eq_7, denS.eq_8, denS.eq_11, denS.eq_12, denS.eq_13, denS.eq_14, denS.eq_15, denS.eq_16, denS.eq_17, denBl_c, denBl_e, goB_nx, goB_rt, goB_ct, goB_bk, goF, ↓R.bind_bnd, R.bnd_ok, R.bnd_exc, R.bnd_bad, R.of_some, R.calm_ok, hvI, hvT, hvS, rd, rdH, fz, fzH, res, resAll, setV, setVs, bindT.eq_1, bindT.eq_2, bindTs.eq_1, bindTs.eq_2, wipe, Lit.d, List.getElem?_cons_zero, List.getElem?_cons_succ, List.set_cons_zero, List.set_cons_succ, binop, augop, cmpop, truth, indexD, biop, if_true, if_false, Bool.false_eq_true, Bool.true_and, Bool.and_true, Bool.false_and, Bool.and_false, List.length_cons, List.length_nil, Option.bind_some, Option.map_some, decide_true, decide_false, decide_eq_true_eq, Bool.not_true, Bool.not_false, Bool.or_false, Bool.false_or, Bool.or_true, Bool.true_or, reduceIte, beq_iff_eq, look, isKey_ss, isKey_ii, dkeys_s, dkeys_i, dkey0_s, dkey0_i, List.all_cons, List.all_nil, List.any_cons, List.any_nil, putD, hasKey_c, hasKey_n, putVs, List.cons_beq_cons, BEq.rfl, beq_self_eq_true, goR, endE, List.map_cons, List.map_nil, Nat.reduceBEq, Nat.reduceLeDiff, Nat.reduceEqDiff, Nat.reduceAdd, Nat.reduceMul, Nat.reduceLT, Nat.reduceSub, Int.reduceLT, Int.reduceLE, Int.reduceNeg, Int.reduceMul, Int.reduceAdd, Int.reduceSub, Int.reduceEq, Int.reduceBEq, Int.reduceNe, reduceCtorEq, Int.reduceToNat, Int.natAbs_natCast, Bool.or_self, Bool.and_self, line_lit, bne_self_eq_false, Bool.bne_true, Bool.bne_false, Int.reducePow, sm64_eq, smB_eq, isTy, isiOk, isLit, denS_for0, denS_whl, den_lc, mask, fzAll, toldEx, rep_1, rep_2, rep_3, eqOk_NONE, eqv_NONE, dep_int, dep_bl, dep_str, dep_non, eqv_int, eqv_bl, eqv_str2, eqOk_int, eqOk_str, natAbs_lit, List.contains_nil, den_gen, genS_nil, genS_cons, testR, isDic, itemsOf, List.all_cons, List.any_cons, id_eq, cast_lit, List.contains_cons, goes_nx, gives_ok, goes_ct, and_self, decide_not, not_false_eq_true, ne_eq]
def nextI (p : Tr) (place row : Int) : Int := (if p.1 > row then p.1 else row) + (place - 1 - ((if p.1 > row then p.1 else row) - p.1)) % p.2
theorem next_F (p : Tr) (place row : Int) (hm : 1 ≤ p.2) : runF GD F c_next_at [pr p, .int place, .int row] = if 1 ≤ place ∧ place ≤ p.2 then .ok ((false, .int (nextI p place row)), .non) else .exc 0 .non := by
  rw [runF_def _ _ _ _ ⟨rfl, by decide⟩]
  obtain ⟨a, b⟩ := p
  simp only at hm
  have hb : ¬ b = 0 := by omega
  by_cases c1 : 1 ≤ place
  · by_cases c2 : place ≤ b
    · have e : (place - 1 - ((if a > row then a else row) - a)).fmod b = (place - 1 - ((if a > row then a else row) - a)) % b := Int.fmod_eq_emod_of_nonneg _ (by omega)
      simp -implicitDefEqProofs only [c_next_at, startE, List.replicate, List.cons_append, List.nil_append, pr, nextI, c1, c2, hb, e, den.eq_1, den.eq_2, den.eq_3, den.eq_4, den.eq_5, den.eq_6, den.eq_7, den.eq_8, den.eq_9, den.eq_10, den.eq_11, den.eq_12, den.eq_13, den.eq_14, den.eq_15, den.eq_16, den.eq_17, den.eq_18, den.eq_19, den.eq_20, den.eq_21, den.eq_22, den.eq_23, den.eq_24, den.eq_25, den.eq_26, den.eq_27, den.eq_33, den.eq_34, denB, denF, denR, denL, denD, denI, denT, denO, denS.eq_1, denS.eq_2, denS.eq_3, denS.eq_4, denS.eq_5, denS.eq_6, denS.eq_7, denS.eq_8, denS.eq_11, denS.eq_12, denS.eq_13, denS.eq_14, denS.eq_15, denS.eq_16, denS.eq_17, denBl_c, denBl_e, goB_nx, goB_rt, goB_ct, goB_bk, goF, ↓R.bind_bnd, R.bnd_ok, R.bnd_exc, R.bnd_bad, R.of_some, R.calm_ok, hvI, hvT, hvS, rd, rdH, fz, fzH, res, resAll, setV, setVs, bindT.eq_1, bindT.eq_2, bindTs.eq_1, bindTs.eq_2, wipe, Lit.d, List.getElem?_cons_zero, List.getElem?_cons_succ, List.set_cons_zero, List.set_cons_succ, binop, augop, cmpop, truth, indexD, biop, if_true, if_false, Bool.false_eq_true, Bool.true_and, Bool.and_true, Bool.false_and, Bool.and_false, List.length_cons, List.length_nil, Option.bind_some, Option.map_some, decide_true, decide_false, decide_eq_true_eq, Bool.not_true, Bool.not_false, Bool.or_false, Bool.false_or, Bool.or_true, Bool.true_or, reduceIte, beq_iff_eq, look, isKey_ss, isKey_ii, dkeys_s, dkeys_i, dkey0_s, dkey0_i, List.all_cons, List.all_nil, List.any_cons, List.any_nil, putD, hasKey_c, hasKey_n, putVs, List.cons_beq_cons, BEq.rfl, beq_self_eq_true, goR, endE, List.map_cons, List.map_nil, Nat.reduceBEq, Nat.reduceLeDiff, Nat.reduceEqDiff, Nat.reduceAdd, Nat.reduceMul, Nat.reduceLT, Nat.reduceSub, Int.reduceLT, Int.reduceLE, Int.reduceNeg, Int.reduceMul, Int.reduceAdd, Int.reduceSub, Int.reduceEq, Int.reduceBEq, Int.reduceNe, reduceCtorEq, Int.reduceToNat, Int.natAbs_natCast, Bool.or_self, Bool.and_self, line_lit, bne_self_eq_false, Bool.bne_true, Bool.bne_false, Int.reducePow, sm64_eq, smB_eq, isTy, isiOk, isLit, denS_for0, denS_whl, den_lc, mask, fzAll, toldEx, rep_1, rep_2, rep_3, eqOk_NONE, eqv_NONE, dep_int, dep_bl, dep_str, dep_non, eqv_int, eqv_bl, eqv_str2, eqOk_int, eqOk_str, natAbs_lit, List.contains_nil, den_gen, genS_nil, genS_cons, testR, isDic, itemsOf, List.all_cons, List.any_cons, id_eq, cast_lit, List.contains_cons, goes_nx, gives_ok, goes_ct, and_self, decide_not, not_false_eq_true, ne_eq]
    · simp -implicitDefEqProofs only [c_next_at, startE, List.replicate, List.cons_append, List.nil_append, pr, c1, c2, and_false, den.eq_1, den.eq_2, den.eq_3, den.eq_4, den.eq_5, den.eq_6, den.eq_7, den.eq_8, den.eq_9, den.eq_10, den.eq_11, den.eq_12, den.eq_13, den.eq_14, den.eq_15, den.eq_16, den.eq_17, den.eq_18, den.eq_19, den.eq_20, den.eq_21, den.eq_22, den.eq_23, den.eq_24, den.eq_25, den.eq_26, den.eq_27, den.eq_33, den.eq_34, denB, denF, denR, denL, denD, denI, denT, denO, denS.eq_1, denS.eq_2, denS.eq_3, denS.eq_4, denS.eq_5, denS.eq_6, denS.eq_7, denS.eq_8, denS.eq_11, denS.eq_12, denS.eq_13, denS.eq_14, denS.eq_15, denS.eq_16, denS.eq_17, denBl_c, denBl_e, goB_nx, goB_rt, goB_ct, goB_bk, goF, ↓R.bind_bnd, R.bnd_ok, R.bnd_exc, R.bnd_bad, R.of_some, R.calm_ok, hvI, hvT, hvS, rd, rdH, fz, fzH, res, resAll, setV, setVs, bindT.eq_1, bindT.eq_2, bindTs.eq_1, bindTs.eq_2, wipe, Lit.d, List.getElem?_cons_zero, List.getElem?_cons_succ, List.set_cons_zero, List.set_cons_succ, binop, augop, cmpop, truth, indexD, biop, if_true, if_false, Bool.false_eq_true, Bool.true_and, Bool.and_true, Bool.false_and, Bool.and_false, List.length_cons, List.length_nil, Option.bind_some, Option.map_some, decide_true, decide_false, decide_eq_true_eq, Bool.not_true, Bool.not_false, Bool.or_false, Bool.false_or, Bool.or_true, Bool.true_or, reduceIte, beq_iff_eq, look, isKey_ss, isKey_ii, dkeys_s, dkeys_i, dkey0_s, dkey0_i, List.all_cons, List.all_nil, List.any_cons, List.any_nil, putD, hasKey_c, hasKey_n, putVs, List.cons_beq_cons, BEq.rfl, beq_self_eq_true, goR, endE, List.map_cons, List.map_nil, Nat.reduceBEq, Nat.reduceLeDiff, Nat.reduceEqDiff, Nat.reduceAdd, Nat.reduceMul, Nat.reduceLT, Nat.reduceSub, Int.reduceLT, Int.reduceLE, Int.reduceNeg, Int.reduceMul, Int.reduceAdd, Int.reduceSub, Int.reduceEq, Int.reduceBEq, Int.reduceNe, reduceCtorEq, Int.reduceToNat, Int.natAbs_natCast, Bool.or_self, Bool.and_self, line_lit, bne_self_eq_false, Bool.bne_true, Bool.bne_false, Int.reducePow, sm64_eq, smB_eq, isTy, isiOk, isLit, denS_for0, denS_whl, den_lc, mask, fzAll, toldEx, rep_1, rep_2, rep_3, eqOk_NONE, eqv_NONE, dep_int, dep_bl, dep_str, dep_non, eqv_int, eqv_bl, eqv_str2, eqOk_int, eqOk_str, natAbs_lit, List.contains_nil, den_gen, genS_nil, genS_cons, testR, isDic, itemsOf, List.all_cons, List.any_cons, id_eq, cast_lit, List.contains_cons, goes_nx, gives_ok, goes_ct, and_self, decide_not, not_false_eq_true, ne_eq]
  · simp -implicitDefEqProofs only [c_next_at, startE, List.replicate, List.cons_append, List.nil_append, pr, c1, false_and, den.eq_1, den.eq_2, den.eq_3, den.eq_4, den.eq_5, den.eq_6, den.eq_7, den.eq_8, den.eq_9, den.eq_10, den.eq_11, den.eq_12, den.eq_13, den.eq_14, den.eq_15, den.eq_16, den.eq_17, den.eq_18, den.eq_19, den.eq_20, den.eq_21, den.eq_22, den.eq_23, den.eq_24, den.eq_25, den.eq_26, den.eq_27, den.eq_33, den.eq_34, denB, denF, denR, denL, denD, denI, denT, denO, denS.eq_1, denS.eq_2, denS.eq_3, denS.eq_4, denS.eq_5, denS.eq_6, denS.eq_7, denS.eq_8, denS.eq_11, denS.eq_12, denS.eq_13, denS.eq_14, denS.eq_15, denS.eq_16, denS.eq_17, denBl_c, denBl_e, goB_nx, goB_rt, goB_ct, goB_bk, goF, ↓R.bind_bnd, R.bnd_ok, R.bnd_exc, R.bnd_bad, R.of_some, R.calm_ok, hvI, hvT, hvS, rd, rdH, fz, fzH, res, resAll, setV, setVs, bindT.eq_1, bindT.eq_2, bindTs.eq_1, bindTs.eq_2, wipe, Lit.d, List.getElem?_cons_zero, List.getElem?_cons_succ, List.set_cons_zero, List.set_cons_succ, binop, augop, cmpop, truth, indexD, biop, if_true, if_false, Bool.false_eq_true, Bool.true_and, Bool.and_true, Bool.false_and, Bool.and_false, List.length_cons, List.length_nil, Option.bind_some, Option.map_some, decide_true, decide_false, decide_eq_true_eq, Bool.not_true, Bool.not_false, Bool.or_false, Bool.false_or, Bool.or_true, Bool.true_or, reduceIte, beq_iff_eq, look, isKey_ss, isKey_ii, dkeys_s, dkeys_i, dkey0_s, dkey0_i, List.all_cons, List.all_nil, List.any_cons, List.any_nil, putD, hasKey_c, hasKey_n, putVs, List.cons_beq_cons, BEq.rfl, beq_self_eq_true, goR, endE, List.map_cons, List.map_nil, Nat.reduceBEq, Nat.reduceLeDiff, Nat.reduceEqDiff, Nat.reduceAdd, Nat.reduceMul, Nat.reduceLT, Nat.reduceSub, Int.reduceLT, Int.reduceLE, Int.reduceNeg, Int.reduceMul, Int.reduceAdd, Int.reduceSub, Int.reduceEq, Int.reduceBEq, Int.reduceNe, reduceCtorEq, Int.reduceToNat, Int.natAbs_natCast, Bool.or_self, Bool.and_self, line_lit, bne_self_eq_false, Bool.bne_true, Bool.bne_false, Int.reducePow, sm64_eq, smB_eq, isTy, isiOk, isLit, denS_for0, denS_whl, den_lc, mask, fzAll, toldEx, rep_1, rep_2, rep_3, eqOk_NONE, eqv_NONE, dep_int, dep_bl, dep_str, dep_non, eqv_int, eqv_bl, eqv_str2, eqOk_int, eqOk_str, natAbs_lit, List.contains_nil, den_gen, genS_nil, genS_cons, testR, isDic, itemsOf, List.all_cons, List.any_cons, id_eq, cast_lit, List.contains_cons, goes_nx, gives_ok, goes_ct, and_self, decide_not, not_false_eq_true, ne_eq]
/-! ### common multiples -/
def gGo (s : Nat × Nat) : Bool := decide (s.2 ≠ 0)
def gNx (s : Nat × Nat) : Nat × Nat := (s.2, s.1 % s.2)
theorem gP_n (G : Nat) (s : Nat × Nat) (h : Nat.gcd s.1 s.2 = G) (hg : gGo s = true) : Nat.gcd (gNx s).1 (gNx s).2 = G ∧ (gNx s).2 < s.2 := by
  obtain ⟨a, b⟩ := s
  simp -implicitDefEqProofs only [gGo, decide_eq_true_eq] at hg
  simp -implicitDefEqProofs only [gNx]
  refine ⟨?_, Nat.mod_lt _ (Nat.pos_of_ne_zero hg)⟩
  simp only at h
  rw [← h, Nat.gcd_comm b (a % b), ← Nat.gcd_rec b a, Nat.gcd_comm]
theorem fmod_nat (a b : Nat) : (a : Int).fmod (b : Int) = ((a % b : Nat) : Int) := by
  rw [Int.fmod_eq_emod_of_nonneg _ (by omega)]; rfl
theorem gcd_w {r0 r1 r2 : Option PV} (x y : Nat) (hy : y < 1000000) :
    whlS GD F false (.tr (.v 4)) (.c (.par [3, 4] (.cons (.v 4) (.cons (.bin .mod (.v 3) (.v 4)) .nil))) .e) [r0, r1, r2, some (.imm (.int x)), some (.imm (.int y))] = .ok (.nx [r0, r1, r2, some (.imm (.int (Nat.gcd x y))), some (.imm (.int 0))]) := by
  have h := whl_wl (fun s : Nat × Nat => [r0, r1, r2, some (.imm (.int s.1)), some (.imm (.int s.2))]) (fun s => Nat.gcd s.1 s.2 = Nat.gcd x y) gGo gNx (fun s => s.2)
    (denB GD F (.tr (.v 4))) (denBl GD F false (.c (.par [3, 4] (.cons (.v 4) (.cons (.bin .mod (.v 3) (.v 4)) .nil))) .e)) ?_ ?_ y most (x, y) rfl (Nat.le_refl _) (Nat.lt_trans hy (by decide))
  · obtain ⟨h1, h2, h3⟩ := h
    generalize wl gGo gNx y (x, y) = s at *
    obtain ⟨a, b⟩ := s
    simp -implicitDefEqProofs only [gGo, decide_eq_false_iff_not, Decidable.not_not] at h3
    subst h3
    simp -implicitDefEqProofs only [Nat.gcd_zero_right] at h2
    subst h2
    exact h1
  · rintro ⟨a, b⟩ hP
    have e : (((b : Nat) : Int) != 0) = gGo (a, b) := by
      simp -implicitDefEqProofs only [gGo]
      by_cases hb : b = 0
      · subst hb; rfl
      · have : ¬ ((b : Nat) : Int) = 0 := by omega
        simp [hb]
    simp -implicitDefEqProofs only [e, den.eq_1, den.eq_2, den.eq_3, den.eq_4, den.eq_5, den.eq_6, den.eq_7, den.eq_8, den.eq_9, den.eq_10, den.eq_11, den.eq_12, den.eq_13, den.eq_14, den.eq_15, den.eq_16, den.eq_17, den.eq_18, den.eq_19, den.eq_20, den.eq_21, den.eq_22, den.eq_23, den.eq_24, den.eq_25, den.eq_26, den.eq_27, den.eq_33, den.eq_34, denB, denF, denR, denL, denD, denI, denT, denO, denS.eq_1, denS.eq_2, denS.eq_3, denS.eq_4, denS.eq_5, denS.eq_6, denS.eq_7, denS.eq_8, denS.eq_11, denS.eq_12, denS.eq_13, denS.eq_14, denS.eq_15, denS.eq_16, denS.eq_17, denBl_c, denBl_e, goB_nx, goB_rt, goB_ct, goB_bk, goF, ↓R.bind_bnd, R.bnd_ok, R.bnd_exc, R.bnd_bad, R.of_some, R.calm_ok, hvI, hvT, hvS, rd, rdH, fz, fzH, res, resAll, setV, setVs, bindT.eq_1, bindT.eq_2, bindTs.eq_1, bindTs.eq_2, wipe, Lit.d, List.getElem?_cons_zero, List.getElem?_cons_succ, List.set_cons_zero, List.set_cons_succ, binop, augop, cmpop, truth, indexD, biop, if_true, if_false, Bool.false_eq_true, Bool.true_and, Bool.and_true, Bool.false_and, Bool.and_false, List.length_cons, List.length_nil, Option.bind_some, Option.map_some, decide_true, decide_false, decide_eq_true_eq, Bool.not_true, Bool.not_false, Bool.or_false, Bool.false_or, Bool.or_true, Bool.true_or, reduceIte, beq_iff_eq, look, isKey_ss, isKey_ii, dkeys_s, dkeys_i, dkey0_s, dkey0_i, List.all_cons, List.all_nil, List.any_cons, List.any_nil, putD, hasKey_c, hasKey_n, putVs, List.cons_beq_cons, BEq.rfl, beq_self_eq_true, goR, endE, List.map_cons, List.map_nil, Nat.reduceBEq, Nat.reduceLeDiff, Nat.reduceEqDiff, Nat.reduceAdd, Nat.reduceMul, Nat.reduceLT, Nat.reduceSub, Int.reduceLT, Int.reduceLE, Int.reduceNeg, Int.reduceMul, Int.reduceAdd, Int.reduceSub, Int.reduceEq, Int.reduceBEq, Int.reduceNe, reduceCtorEq, Int.reduceToNat, Int.natAbs_natCast, Bool.or_self, Bool.and_self, line_lit, bne_self_eq_false, Bool.bne_true, Bool.bne_false, Int.reducePow, sm64_eq, smB_eq, isTy, isiOk, isLit, denS_for0, denS_whl, den_lc, mask, fzAll, toldEx, rep_1, rep_2, rep_3, eqOk_NONE, eqv_NONE, dep_int, dep_bl, dep_str, dep_non, eqv_int, eqv_bl, eqv_str2, eqOk_int, eqOk_str, natAbs_lit, List.contains_nil, den_gen, genS_nil, genS_cons, testR, isDic, itemsOf, List.all_cons, List.any_cons, id_eq, cast_lit, List.contains_cons, goes_nx, gives_ok, goes_ct, and_self, decide_not, not_false_eq_true, ne_eq]
  · rintro ⟨a, b⟩ hP hg
    have hz : ¬ ((b : Nat) : Int) = 0 := by simp -implicitDefEqProofs only [gGo, decide_eq_true_eq] at hg; omega
    refine ⟨?_, gP_n _ _ hP hg⟩
    simp -implicitDefEqProofs only [hz, fmod_nat, gNx, den.eq_1, den.eq_2, den.eq_3, den.eq_4, den.eq_5, den.eq_6, den.eq_7, den.eq_8, den.eq_9, den.eq_10, den.eq_11, den.eq_12, den.eq_13, den.eq_14, den.eq_15, den.eq_16, den.eq_17, den.eq_18, den.eq_19, den.eq_20, den.eq_21, den.eq_22, den.eq_23, den.eq_24, den.eq_25, den.eq_26, den.eq_27, den.eq_33, den.eq_34, denB, denF, denR, denL, denD, denI, denT, denO, denS.eq_1, denS.eq_2, denS.eq_3, denS.eq_4, denS.eq_5, denS.eq_6, denS.eq_7, denS.eq_8, denS.eq_11, denS.eq_12, denS.eq_13, denS.eq_14, denS.eq_15, denS.eq_16, denS.eq_17, denBl_c, denBl_e, goB_nx, goB_rt, goB_ct, goB_bk, goF, ↓R.bind_bnd, R.bnd_ok, R.bnd_exc, R.bnd_bad, R.of_some, R.calm_ok, hvI, hvT, hvS, rd, rdH, fz, fzH, res, resAll, setV, setVs, bindT.eq_1, bindT.eq_2, bindTs.eq_1, bindTs.eq_2, wipe, Lit.d, List.getElem?_cons_zero, List.getElem?_cons_succ, List.set_cons_zero, List.set_cons_succ, binop, augop, cmpop, truth, indexD, biop, if_true, if_false, Bool.false_eq_true, Bool.true_and, Bool.and_true, Bool.false_and, Bool.and_false, List.length_cons, List.length_nil, Option.bind_some, Option.map_some, decide_true, decide_false, decide_eq_true_eq, Bool.not_true, Bool.not_false, Bool.or_false, Bool.false_or, Bool.or_true, Bool.true_or, reduceIte, beq_iff_eq, look, isKey_ss, isKey_ii, dkeys_s, dkeys_i, dkey0_s, dkey0_i, List.all_cons, List.all_nil, List.any_cons, List.any_nil, putD, hasKey_c, hasKey_n, putVs, List.cons_beq_cons, BEq.rfl, beq_self_eq_true, goR, endE, List.map_cons, List.map_nil, Nat.reduceBEq, Nat.reduceLeDiff, Nat.reduceEqDiff, Nat.reduceAdd, Nat.reduceMul, Nat.reduceLT, Nat.reduceSub, Int.reduceLT, Int.reduceLE, Int.reduceNeg, Int.reduceMul, Int.reduceAdd, Int.reduceSub, Int.reduceEq, Int.reduceBEq, Int.reduceNe, reduceCtorEq, Int.reduceToNat, Int.natAbs_natCast, Bool.or_self, Bool.and_self, line_lit, bne_self_eq_false, Bool.bne_true, Bool.bne_false, Int.reducePow, sm64_eq, smB_eq, isTy, isiOk, isLit, denS_for0, denS_whl, den_lc, mask, fzAll, toldEx, rep_1, rep_2, rep_3, eqOk_NONE, eqv_NONE, dep_int, dep_bl, dep_str, dep_non, eqv_int, eqv_bl, eqv_str2, eqOk_int, eqOk_str, natAbs_lit, List.contains_nil, den_gen, genS_nil, genS_cons, testR, isDic, itemsOf, List.all_cons, List.any_cons, id_eq, cast_lit, List.contains_cons, goes_nx, gives_ok, goes_ct, and_self, decide_not, not_false_eq_true, ne_eq]
/-- the least common multiple -/
def comL (ns : List Nat) : Nat := ns.foldl Nat.lcm 1
def lcD (x : Nat) : D → Nat
  | .int i => Nat.lcm x i.toNat
  | _ => x
theorem fold_lc (ns : List Nat) (x : Nat) : (ns.map fun n : Nat => D.int n).foldl lcD x = ns.foldl Nat.lcm x := by
  induction ns generalizing x with
  | nil => rfl
  | cons n ns ih => rw [List.map_cons, List.foldl_cons, List.foldl_cons, ih]; rfl
theorem lcm_div (x n : Nat) (hn : 1 ≤ n) : ((x : Int) * (n : Int)).fdiv ((Nat.gcd x n : Nat) : Int) = ((Nat.lcm x n : Nat) : Int) := by
  rw [Int.fdiv_eq_ediv_of_nonneg _ (by omega)]; rfl
theorem common_F (ns : List Nat) (h : ∀ n ∈ ns, 1 ≤ n ∧ n ≤ 1000) : runF GD F c_common [.lst (ns.map fun n : Nat => .int n)] = .ok ((false, .int (comL ns)), .non) := by
  rw [runF_def _ _ _ _ ⟨rfl, by decide⟩]
  obtain ⟨ρ', e, g2, g3, g4, h2⟩ := for_foldI (fun (x : Nat) ρ => ∃ g2 g3 g4 : Option PV, ρ = [some (.imm (.lst (ns.map fun n : Nat => .int n))), some (.imm (.int x)), g2, g3, g4]) lcD (forT GD F false (.n 2) (.c (.par [3, 4] (.cons (.v 1) (.cons (.v 2) .nil))) (.c (.whl (.tr (.v 4)) (.c (.par [3, 4] (.cons (.v 4) (.cons (.bin .mod (.v 3) (.v 4)) .nil))) .e)) (.c (.set 1 (.bin .fdiv (.bin .mul (.v 1) (.v 2)) (.v 3))) .e)))) (ns.map fun n : Nat => .int n) (by
    rintro x d ρ hd ⟨g2, g3, g4, rfl⟩
    obtain ⟨n, hn, rfl⟩ := List.mem_map.mp hd
    obtain ⟨q1, q2⟩ := h n hn
    have w := fun r0 r1 r2 => @gcd_w F r0 r1 r2 x n (by omega)
    have hg : 0 < Nat.gcd x n := Nat.gcd_pos_of_pos_right _ (by omega)
    have hg2 : Nat.gcd x n ≤ n := Nat.gcd_le_right _ (by omega)
    have b1 : ¬ ((Nat.gcd x n : Nat) : Int) = 0 := by omega
    have b2 : Nat.gcd x n < 1073741824 := by omega
    have b3 : (-18446744073709551616 : Int) < (n : Int) := by omega
    have b4 : (n : Int) < (18446744073709551616 : Int) := by omega
    simp -implicitDefEqProofs only [forT, w, b1, b2, b3, b4, lcm_div x n q1, lcD, Int.toNat_natCast, den.eq_1, den.eq_2, den.eq_3, den.eq_4, den.eq_5, den.eq_6, den.eq_7, den.eq_8, den.eq_9, den.eq_10, den.eq_11, den.eq_12, den.eq_13, den.eq_14, den.eq_15, den.eq_16, den.eq_17, den.eq_18, den.eq_19, den.eq_20, den.eq_21, den.eq_22, den.eq_23, den.eq_24, den.eq_25, den.eq_26, den.eq_27, den.eq_33, den.eq_34, denB, denF, denR, denL, denD, denI, denT, denO, denS.eq_1, denS.eq_2, denS.eq_3, denS.eq_4, denS.eq_5, denS.eq_6, denS.eq_7, denS.eq_8, denS.eq_11, denS.eq_12, denS.eq_13, denS.eq_14, denS.eq_15, denS.eq_16, denS.eq_17, denBl_c, denBl_e, goB_nx, goB_rt, goB_ct, goB_bk, goF, ↓R.bind_bnd, R.bnd_ok, R.bnd_exc, R.bnd_bad, R.of_some, R.calm_ok, hvI, hvT, hvS, rd, rdH, fz, fzH, res, resAll, setV, setVs, bindT.eq_1, bindT.eq_2, bindTs.eq_1, bindTs.eq_2, wipe, Lit.d, List.getElem?_cons_zero, List.getElem?_cons_succ, List.set_cons_zero, List.set_cons_succ, binop, augop, cmpop, truth, indexD, biop, if_true, if_false, Bool.false_eq_true, Bool.true_and, Bool.and_true, Bool.false_and, Bool.and_false, List.length_cons, List.length_nil, Option.bind_some, Option.map_some, decide_true, decide_false, decide_eq_true_eq, Bool.not_true, Bool.not_false, Bool.or_false, Bool.false_or, Bool.or_true, Bool.true_or, reduceIte, beq_iff_eq, look, isKey_ss, isKey_ii, dkeys_s, dkeys_i, dkey0_s, dkey0_i, List.all_cons, List.all_nil, List.any_cons, List.any_nil, putD, hasKey_c, hasKey_n, putVs, List.cons_beq_cons, BEq.rfl, beq_self_eq_true, goR, endE, List.map_cons, List.map_nil, Nat.reduceBEq, Nat.reduceLeDiff, Nat.reduceEqDiff, Nat.reduceAdd, Nat.reduceMul, Nat.reduceLT, Nat.reduceSub, Int.reduceLT, Int.reduceLE, Int.reduceNeg, Int.reduceMul, Int.reduceAdd, Int.reduceSub, Int.reduceEq, Int.reduceBEq, Int.reduceNe, reduceCtorEq, Int.reduceToNat, Int.natAbs_natCast, Bool.or_self, Bool.and_self, line_lit, bne_self_eq_false, Bool.bne_true, Bool.bne_false, Int.reducePow, sm64_eq, smB_eq, isTy, isiOk, isLit, denS_for0, denS_whl, den_lc, mask, fzAll, toldEx, rep_1, rep_2, rep_3, eqOk_NONE, eqv_NONE, dep_int, dep_bl, dep_str, dep_non, eqv_int, eqv_bl, eqv_str2, eqOk_int, eqOk_str, natAbs_lit, List.contains_nil, den_gen, genS_nil, genS_cons, testR, isDic, itemsOf, List.all_cons, List.any_cons, id_eq, cast_lit, List.contains_cons, goes_nx, gives_ok, goes_ct, and_self, decide_not, not_false_eq_true, ne_eq]
    exact ⟨_, _, _, rfl⟩) 1 [some (.imm (.lst (ns.map fun n : Nat => .int n))), some (.imm (.int 1)), none, none, none] ⟨none, none, none, rfl⟩
  subst h2
  rw [fold_lc] at e
  simp -implicitDefEqProofs only [c_common, startE, List.replicate, List.cons_append, List.nil_append, e, den.eq_1, den.eq_2, den.eq_3, den.eq_4, den.eq_5, den.eq_6, den.eq_7, den.eq_8, den.eq_9, den.eq_10, den.eq_11, den.eq_12, den.eq_13, den.eq_14, den.eq_15, den.eq_16, den.eq_17, den.eq_18, den.eq_19, den.eq_20, den.eq_21, den.eq_22, den.eq_23, den.eq_24, den.eq_25, den.eq_26, den.eq_27, den.eq_33, den.eq_34, denB, denF, denR, denL, denD, denI, denT, denO, denS.eq_1, denS.eq_2, denS.eq_3, denS.eq_4, denS.eq_5, denS.eq_6, denS.eq_7, denS.eq_8, denS.eq_11, denS.eq_12, denS.eq_13, denS.eq_14, denS.eq_15, denS.eq_16, denS.eq_17, denBl_c, denBl_e, goB_nx, goB_rt, goB_ct, goB_bk, goF, ↓R.bind_bnd, R.bnd_ok, R.bnd_exc, R.bnd_bad, R.of_some, R.calm_ok, hvI, hvT, hvS, rd, rdH, fz, fzH, res, resAll, setV, setVs, bindT.eq_1, bindT.eq_2, bindTs.eq_1, bindTs.eq_2, wipe, Lit.d, List.getElem?_cons_zero, List.getElem?_cons_succ, List.set_cons_zero, List.set_cons_succ, binop, augop, cmpop, truth, indexD, biop, if_true, if_false, Bool.false_eq_true, Bool.true_and, Bool.and_true, Bool.false_and, Bool.and_false, List.length_cons, List.length_nil, Option.bind_some, Option.map_some, decide_true, decide_false, decide_eq_true_eq, Bool.not_true, Bool.not_false, Bool.or_false, Bool.false_or, Bool.or_true, Bool.true_or, reduceIte, beq_iff_eq, look, isKey_ss, isKey_ii, dkeys_s, dkeys_i, dkey0_s, dkey0_i, List.all_cons, List.all_nil, List.any_cons, List.any_nil, putD, hasKey_c, hasKey_n, putVs, List.cons_beq_cons, BEq.rfl, beq_self_eq_true, goR, endE, List.map_cons, List.map_nil, Nat.reduceBEq, Nat.reduceLeDiff, Nat.reduceEqDiff, Nat.reduceAdd, Nat.reduceMul, Nat.reduceLT, Nat.reduceSub, Int.reduceLT, Int.reduceLE, Int.reduceNeg, Int.reduceMul, Int.reduceAdd, Int.reduceSub, Int.reduceEq, Int.reduceBEq, Int.reduceNe, reduceCtorEq, Int.reduceToNat, Int.natAbs_natCast, Bool.or_self, Bool.and_self, line_lit, bne_self_eq_false, Bool.bne_true, Bool.bne_false, Int.reducePow, sm64_eq, smB_eq, isTy, isiOk, isLit, denS_for0, denS_whl, den_lc, mask, fzAll, toldEx, rep_1, rep_2, rep_3, eqOk_NONE, eqv_NONE, dep_int, dep_bl, dep_str, dep_non, eqv_int, eqv_bl, eqv_str2, eqOk_int, eqOk_str, natAbs_lit, List.contains_nil, den_gen, genS_nil, genS_cons, testR, isDic, itemsOf, List.all_cons, List.any_cons, id_eq, cast_lit, List.contains_cons, goes_nx, gives_ok, goes_ct, and_self, decide_not, not_false_eq_true, ne_eq]
  rfl
theorem lcm_bd (ns : List Nat) (x : Nat) : ∀ n ∈ ns, n ∣ ns.foldl Nat.lcm x := by
  have keep : ∀ (ns : List Nat) (x y : Nat), y ∣ x → y ∣ ns.foldl Nat.lcm x := by
    intro ns
    induction ns with
    | nil => intro x y h; exact h
    | cons n ns ih => intro x y h; exact ih _ _ (Nat.dvd_trans h (Nat.dvd_lcm_left x n))
  induction ns generalizing x with
  | nil => intro n hn; cases hn
  | cons m ns ih =>
    intro n hn
    rcases List.mem_cons.mp hn with rfl | hn
    · exact keep ns _ _ (Nat.dvd_lcm_right x n)
    · exact ih _ n hn
theorem div_w (x y : Nat) (hy : y < 1000000) :
    whlS GD F false (.cmp .gt (.v 1) (.k (.int 0))) (.c (.par [0, 1] (.cons (.v 1) (.cons (.bin .sub (.v 0) (.bin .mul (.bin .fdiv (.v 0) (.v 1)) (.v 1))) .nil))) .e) [some (.imm (.int x)), some (.imm (.int y))] = .ok (.nx [some (.imm (.int (Nat.gcd x y))), some (.imm (.int 0))]) := by
  have h := whl_wl (fun s : Nat × Nat => ([some (.imm (.int s.1)), some (.imm (.int s.2))] : Env)) (fun s => Nat.gcd s.1 s.2 = Nat.gcd x y ∧ s.2 < 1000000) gGo gNx (fun s => s.2)
    (denB GD F (.cmp .gt (.v 1) (.k (.int 0)))) (denBl GD F false (.c (.par [0, 1] (.cons (.v 1) (.cons (.bin .sub (.v 0) (.bin .mul (.bin .fdiv (.v 0) (.v 1)) (.v 1))) .nil))) .e)) ?_ ?_ y most (x, y) ⟨rfl, hy⟩ (Nat.le_refl _) (Nat.lt_trans hy (by decide))
  · obtain ⟨h1, ⟨h2, _⟩, h3⟩ := h
    generalize wl gGo gNx y (x, y) = s at *
    obtain ⟨a, b⟩ := s
    simp -implicitDefEqProofs only [gGo, decide_eq_false_iff_not, Decidable.not_not] at h3
    subst h3
    simp -implicitDefEqProofs only [Nat.gcd_zero_right] at h2
    subst h2
    exact h1
  · rintro ⟨a, b⟩ hP
    by_cases hb : b = 0
    · subst hb
      simp -implicitDefEqProofs only [gGo, den.eq_1, den.eq_2, den.eq_3, den.eq_4, den.eq_5, den.eq_6, den.eq_7, den.eq_8, den.eq_9, den.eq_10, den.eq_11, den.eq_12, den.eq_13, den.eq_14, den.eq_15, den.eq_16, den.eq_17, den.eq_18, den.eq_19, den.eq_20, den.eq_21, den.eq_22, den.eq_23, den.eq_24, den.eq_25, den.eq_26, den.eq_27, den.eq_33, den.eq_34, denB, denF, denR, denL, denD, denI, denT, denO, denS.eq_1, denS.eq_2, denS.eq_3, denS.eq_4, denS.eq_5, denS.eq_6, denS.eq_7, denS.eq_8, denS.eq_11, denS.eq_12, denS.eq_13, denS.eq_14, denS.eq_15, denS.eq_16, denS.eq_17, denBl_c, denBl_e, goB_nx, goB_rt, goB_ct, goB_bk, goF, ↓R.bind_bnd, R.bnd_ok, R.bnd_exc, R.bnd_bad, R.of_some, R.calm_ok, hvI, hvT, hvS, rd, rdH, fz, fzH, res, resAll, setV, setVs, bindT.eq_1, bindT.eq_2, bindTs.eq_1, bindTs.eq_2, wipe, Lit.d, List.getElem?_cons_zero, List.getElem?_cons_succ, List.set_cons_zero, List.set_cons_succ, binop, augop, cmpop, truth, indexD, biop, if_true, if_false, Bool.false_eq_true, Bool.true_and, Bool.and_true, Bool.false_and, Bool.and_false, List.length_cons, List.length_nil, Option.bind_some, Option.map_some, decide_true, decide_false, decide_eq_true_eq, Bool.not_true, Bool.not_false, Bool.or_false, Bool.false_or, Bool.or_true, Bool.true_or, reduceIte, beq_iff_eq, look, isKey_ss, isKey_ii, dkeys_s, dkeys_i, dkey0_s, dkey0_i, List.all_cons, List.all_nil, List.any_cons, List.any_nil, putD, hasKey_c, hasKey_n, putVs, List.cons_beq_cons, BEq.rfl, beq_self_eq_true, goR, endE, List.map_cons, List.map_nil, Nat.reduceBEq, Nat.reduceLeDiff, Nat.reduceEqDiff, Nat.reduceAdd, Nat.reduceMul, Nat.reduceLT, Nat.reduceSub, Int.reduceLT, Int.reduceLE, Int.reduceNeg, Int.reduceMul, Int.reduceAdd, Int.reduceSub, Int.reduceEq, Int.reduceBEq, Int.reduceNe, reduceCtorEq, Int.reduceToNat, Int.natAbs_natCast, Bool.or_self, Bool.and_self, line_lit, bne_self_eq_false, Bool.bne_true, Bool.bne_false, Int.reducePow, sm64_eq, smB_eq, isTy, isiOk, isLit, denS_for0, denS_whl, den_lc, mask, fzAll, toldEx, rep_1, rep_2, rep_3, eqOk_NONE, eqv_NONE, dep_int, dep_bl, dep_str, dep_non, eqv_int, eqv_bl, eqv_str2, eqOk_int, eqOk_str, natAbs_lit, List.contains_nil, den_gen, genS_nil, genS_cons, testR, isDic, itemsOf, List.all_cons, List.any_cons, id_eq, cast_lit, List.contains_cons, goes_nx, gives_ok, goes_ct, and_self, decide_not, not_false_eq_true, ne_eq]
    · have h0 : (0 : Int) < ((b : Nat) : Int) := by omega
      simp -implicitDefEqProofs only [gGo, h0, hb, den.eq_1, den.eq_2, den.eq_3, den.eq_4, den.eq_5, den.eq_6, den.eq_7, den.eq_8, den.eq_9, den.eq_10, den.eq_11, den.eq_12, den.eq_13, den.eq_14, den.eq_15, den.eq_16, den.eq_17, den.eq_18, den.eq_19, den.eq_20, den.eq_21, den.eq_22, den.eq_23, den.eq_24, den.eq_25, den.eq_26, den.eq_27, den.eq_33, den.eq_34, denB, denF, denR, denL, denD, denI, denT, denO, denS.eq_1, denS.eq_2, denS.eq_3, denS.eq_4, denS.eq_5, denS.eq_6, denS.eq_7, denS.eq_8, denS.eq_11, denS.eq_12, denS.eq_13, denS.eq_14, denS.eq_15, denS.eq_16, denS.eq_17, denBl_c, denBl_e, goB_nx, goB_rt, goB_ct, goB_bk, goF, ↓R.bind_bnd, R.bnd_ok, R.bnd_exc, R.bnd_bad, R.of_some, R.calm_ok, hvI, hvT, hvS, rd, rdH, fz, fzH, res, resAll, setV, setVs, bindT.eq_1, bindT.eq_2, bindTs.eq_1, bindTs.eq_2, wipe, Lit.d, List.getElem?_cons_zero, List.getElem?_cons_succ, List.set_cons_zero, List.set_cons_succ, binop, augop, cmpop, truth, indexD, biop, if_true, if_false, Bool.false_eq_true, Bool.true_and, Bool.and_true, Bool.false_and, Bool.and_false, List.length_cons, List.length_nil, Option.bind_some, Option.map_some, decide_true, decide_false, decide_eq_true_eq, Bool.not_true, Bool.not_false, Bool.or_false, Bool.false_or, Bool.or_true, Bool.true_or, reduceIte, beq_iff_eq, look, isKey_ss, isKey_ii, dkeys_s, dkeys_i, dkey0_s, dkey0_i, List.all_cons, List.all_nil, List.any_cons, List.any_nil, putD, hasKey_c, hasKey_n, putVs, List.cons_beq_cons, BEq.rfl, beq_self_eq_true, goR, endE, List.map_cons, List.map_nil, Nat.reduceBEq, Nat.reduceLeDiff, Nat.reduceEqDiff, Nat.reduceAdd, Nat.reduceMul, Nat.reduceLT, Nat.reduceSub, Int.reduceLT, Int.reduceLE, Int.reduceNeg, Int.reduceMul, Int.reduceAdd, Int.reduceSub, Int.reduceEq, Int.reduceBEq, Int.reduceNe, reduceCtorEq, Int.reduceToNat, Int.natAbs_natCast, Bool.or_self, Bool.and_self, line_lit, bne_self_eq_false, Bool.bne_true, Bool.bne_false, Int.reducePow, sm64_eq, smB_eq, isTy, isiOk, isLit, denS_for0, denS_whl, den_lc, mask, fzAll, toldEx, rep_1, rep_2, rep_3, eqOk_NONE, eqv_NONE, dep_int, dep_bl, dep_str, dep_non, eqv_int, eqv_bl, eqv_str2, eqOk_int, eqOk_str, natAbs_lit, List.contains_nil, den_gen, genS_nil, genS_cons, testR, isDic, itemsOf, List.all_cons, List.any_cons, id_eq, cast_lit, List.contains_cons, goes_nx, gives_ok, goes_ct, and_self, decide_not, not_false_eq_true, ne_eq]
  · rintro ⟨a, b⟩ ⟨hP, hlt⟩ hg
    have hb : b ≠ 0 := by simpa [gGo] using hg
    simp only at hlt
    have hz : ¬ ((b : Nat) : Int) = 0 := by omega
    have h2 : b < 1073741824 := by omega
    have b3 : (-18446744073709551616 : Int) < (b : Int) := by omega
    have b4 : (b : Int) < (18446744073709551616 : Int) := by omega
    have e : (a : Int) - (a : Int).fdiv (b : Int) * (b : Int) = ((a % b : Nat) : Int) := by
      rw [← fmod_nat, Int.fmod_def, Int.mul_comm]
    obtain ⟨g1, g2⟩ := gP_n _ _ hP hg
    refine ⟨?_, ⟨g1, Nat.lt_trans g2 hlt⟩, g2⟩
    simp -implicitDefEqProofs only [hz, h2, b3, b4, e, gNx, den.eq_1, den.eq_2, den.eq_3, den.eq_4, den.eq_5, den.eq_6, den.eq_7, den.eq_8, den.eq_9, den.eq_10, den.eq_11, den.eq_12, den.eq_13, den.eq_14, den.eq_15, den.eq_16, den.eq_17, den.eq_18, den.eq_19, den.eq_20, den.eq_21, den.eq_22, den.eq_23, den.eq_24, den.eq_25, den.eq_26, den.eq_27, den.eq_33, den.eq_34, denB, denF, denR, denL, denD, denI, denT, denO, denS.eq_1, denS.eq_2, denS.eq_3, denS.eq_4, denS.eq_5, denS.eq_6, denS.eq_7, denS.eq_8, denS.eq_11, denS.eq_12, denS.eq_13, denS.eq_14, denS.eq_15, denS.eq_16, denS.eq_17, denBl_c, denBl_e, goB_nx, goB_rt, goB_ct, goB_bk, goF, ↓R.bind_bnd, R.bnd_ok, R.bnd_exc, R.bnd_bad, R.of_some, R.calm_ok, hvI, hvT, hvS, rd, rdH, fz, fzH, res, resAll, setV, setVs, bindT.eq_1, bindT.eq_2, bindTs.eq_1, bindTs.eq_2, wipe, Lit.d, List.getElem?_cons_zero, List.getElem?_cons_succ, List.set_cons_zero, List.set_cons_succ, binop, augop, cmpop, truth, indexD, biop, if_true, if_false, Bool.false_eq_true, Bool.true_and, Bool.and_true, Bool.false_and, Bool.and_false, List.length_cons, List.length_nil, Option.bind_some, Option.map_some, decide_true, decide_false, decide_eq_true_eq, Bool.not_true, Bool.not_false, Bool.or_false, Bool.false_or, Bool.or_true, Bool.true_or, reduceIte, beq_iff_eq, look, isKey_ss, isKey_ii, dkeys_s, dkeys_i, dkey0_s, dkey0_i, List.all_cons, List.all_nil, List.any_cons, List.any_nil, putD, hasKey_c, hasKey_n, putVs, List.cons_beq_cons, BEq.rfl, beq_self_eq_true, goR, endE, List.map_cons, List.map_nil, Nat.reduceBEq, Nat.reduceLeDiff, Nat.reduceEqDiff, Nat.reduceAdd, Nat.reduceMul, Nat.reduceLT, Nat.reduceSub, Int.reduceLT, Int.reduceLE, Int.reduceNeg, Int.reduceMul, Int.reduceAdd, Int.reduceSub, Int.reduceEq, Int.reduceBEq, Int.reduceNe, reduceCtorEq, Int.reduceToNat, Int.natAbs_natCast, Bool.or_self, Bool.and_self, line_lit, bne_self_eq_false, Bool.bne_true, Bool.bne_false, Int.reducePow, sm64_eq, smB_eq, isTy, isiOk, isLit, denS_for0, denS_whl, den_lc, mask, fzAll, toldEx, rep_1, rep_2, rep_3, eqOk_NONE, eqv_NONE, dep_int, dep_bl, dep_str, dep_non, eqv_int, eqv_bl, eqv_str2, eqOk_int, eqOk_str, natAbs_lit, List.contains_nil, den_gen, genS_nil, genS_cons, testR, isDic, itemsOf, List.all_cons, List.any_cons, id_eq, cast_lit, List.contains_cons, goes_nx, gives_ok, goes_ct, and_self, decide_not, not_false_eq_true, ne_eq]
theorem div_F (x y : Nat) (hy : y < 1000000) : runF GD F c__law_divisor [.int x, .int y] = .ok ((false, .int (Nat.gcd x y)), .non) := by
  rw [runF_def _ _ _ _ ⟨rfl, by decide⟩]
  have w := div_w F x y hy
  simp -implicitDefEqProofs only [c__law_divisor, startE, List.replicate, List.cons_append, List.nil_append, List.append_nil, w, den.eq_1, den.eq_2, den.eq_3, den.eq_4, den.eq_5, den.eq_6, den.eq_7, den.eq_8, den.eq_9, den.eq_10, den.eq_11, den.eq_12, den.eq_13, den.eq_14, den.eq_15, den.eq_16, den.eq_17, den.eq_18, den.eq_19, den.eq_20, den.eq_21, den.eq_22, den.eq_23, den.eq_24, den.eq_25, den.eq_26, den.eq_27, den.eq_33, den.eq_34, denB, denF, denR, denL, denD, denI, denT, denO, denS.eq_1, denS.eq_2, denS.eq_3, denS.eq_4, denS.eq_5, denS.eq_6, denS.eq_7, denS.eq_8, denS.eq_11, denS.eq_12, denS.eq_13, denS.eq_14, denS.eq_15, denS.eq_16, denS.eq_17, denBl_c, denBl_e, goB_nx, goB_rt, goB_ct, goB_bk, goF, ↓R.bind_bnd, R.bnd_ok, R.bnd_exc, R.bnd_bad, R.of_some, R.calm_ok, hvI, hvT, hvS, rd, rdH, fz, fzH, res, resAll, setV, setVs, bindT.eq_1, bindT.eq_2, bindTs.eq_1, bindTs.eq_2, wipe, Lit.d, List.getElem?_cons_zero, List.getElem?_cons_succ, List.set_cons_zero, List.set_cons_succ, binop, augop, cmpop, truth, indexD, biop, if_true, if_false, Bool.false_eq_true, Bool.true_and, Bool.and_true, Bool.false_and, Bool.and_false, List.length_cons, List.length_nil, Option.bind_some, Option.map_some, decide_true, decide_false, decide_eq_true_eq, Bool.not_true, Bool.not_false, Bool.or_false, Bool.false_or, Bool.or_true, Bool.true_or, reduceIte, beq_iff_eq, look, isKey_ss, isKey_ii, dkeys_s, dkeys_i, dkey0_s, dkey0_i, List.all_cons, List.all_nil, List.any_cons, List.any_nil, putD, hasKey_c, hasKey_n, putVs, List.cons_beq_cons, BEq.rfl, beq_self_eq_true, goR, endE, List.map_cons, List.map_nil, Nat.reduceBEq, Nat.reduceLeDiff, Nat.reduceEqDiff, Nat.reduceAdd, Nat.reduceMul, Nat.reduceLT, Nat.reduceSub, Int.reduceLT, Int.reduceLE, Int.reduceNeg, Int.reduceMul, Int.reduceAdd, Int.reduceSub, Int.reduceEq, Int.reduceBEq, Int.reduceNe, reduceCtorEq, Int.reduceToNat, Int.natAbs_natCast, Bool.or_self, Bool.and_self, line_lit, bne_self_eq_false, Bool.bne_true, Bool.bne_false, Int.reducePow, sm64_eq, smB_eq, isTy, isiOk, isLit, denS_for0, denS_whl, den_lc, mask, fzAll, toldEx, rep_1, rep_2, rep_3, eqOk_NONE, eqv_NONE, dep_int, dep_bl, dep_str, dep_non, eqv_int, eqv_bl, eqv_str2, eqOk_int, eqOk_str, natAbs_lit, List.contains_nil, den_gen, genS_nil, genS_cons, testR, isDic, itemsOf, List.all_cons, List.any_cons, id_eq, cast_lit, List.contains_cons, goes_nx, gives_ok, goes_ct, and_self, decide_not, not_false_eq_true, ne_eq]
theorem rows_F (ts : List Tr) (row : Int) (hl : ts.length ≤ 1000) (h : ∀ p ∈ ts, F 1 [pr p, .int row] = .ok ((false, rowD p row), .non)) :
    runF GD F c_rows_in [.tup (ts.map pr), .int row] = .ok ((true, .lst (ts.map fun p => rowD p row)), .non) := by
  rw [runF_def _ _ _ _ ⟨rfl, by decide⟩]
  have e := lcS_fmG GD F [2] (.n 2) .no (.call 1 (.cons (.v 2) (.cons (.v 1) .nil))) [some (.imm (.tup (ts.map pr))), some (.imm (.int row)), none] (ts.map pr)
    (fun d => match d with
      | .tup [.int a, .int b] => some (rowD (a, b) row)
      | _ => none) (by rw [List.length_map, line_lit]; omega) (by
      intro d hd
      obtain ⟨p, hp, rfl⟩ := List.mem_map.mp hd
      have hh := h p hp
      unfold pr at hh
      simp -implicitDefEqProofs only [lcT, pr, hh, den.eq_1, den.eq_2, den.eq_3, den.eq_4, den.eq_5, den.eq_6, den.eq_7, den.eq_8, den.eq_9, den.eq_10, den.eq_11, den.eq_12, den.eq_13, den.eq_14, den.eq_15, den.eq_16, den.eq_17, den.eq_18, den.eq_19, den.eq_20, den.eq_21, den.eq_22, den.eq_23, den.eq_24, den.eq_25, den.eq_26, den.eq_27, den.eq_33, den.eq_34, denB, denF, denR, denL, denD, denI, denT, denO, denS.eq_1, denS.eq_2, denS.eq_3, denS.eq_4, denS.eq_5, denS.eq_6, denS.eq_7, denS.eq_8, denS.eq_11, denS.eq_12, denS.eq_13, denS.eq_14, denS.eq_15, denS.eq_16, denS.eq_17, denBl_c, denBl_e, goB_nx, goB_rt, goB_ct, goB_bk, goF, ↓R.bind_bnd, R.bnd_ok, R.bnd_exc, R.bnd_bad, R.of_some, R.calm_ok, hvI, hvT, hvS, rd, rdH, fz, fzH, res, resAll, setV, setVs, bindT.eq_1, bindT.eq_2, bindTs.eq_1, bindTs.eq_2, wipe, Lit.d, List.getElem?_cons_zero, List.getElem?_cons_succ, List.set_cons_zero, List.set_cons_succ, binop, augop, cmpop, truth, indexD, biop, if_true, if_false, Bool.false_eq_true, Bool.true_and, Bool.and_true, Bool.false_and, Bool.and_false, List.length_cons, List.length_nil, Option.bind_some, Option.map_some, decide_true, decide_false, decide_eq_true_eq, Bool.not_true, Bool.not_false, Bool.or_false, Bool.false_or, Bool.or_true, Bool.true_or, reduceIte, beq_iff_eq, look, isKey_ss, isKey_ii, dkeys_s, dkeys_i, dkey0_s, dkey0_i, List.all_cons, List.all_nil, List.any_cons, List.any_nil, putD, hasKey_c, hasKey_n, putVs, List.cons_beq_cons, BEq.rfl, beq_self_eq_true, goR, endE, List.map_cons, List.map_nil, Nat.reduceBEq, Nat.reduceLeDiff, Nat.reduceEqDiff, Nat.reduceAdd, Nat.reduceMul, Nat.reduceLT, Nat.reduceSub, Int.reduceLT, Int.reduceLE, Int.reduceNeg, Int.reduceMul, Int.reduceAdd, Int.reduceSub, Int.reduceEq, Int.reduceBEq, Int.reduceNe, reduceCtorEq, Int.reduceToNat, Int.natAbs_natCast, Bool.or_self, Bool.and_self, line_lit, bne_self_eq_false, Bool.bne_true, Bool.bne_false, Int.reducePow, sm64_eq, smB_eq, isTy, isiOk, isLit, denS_for0, denS_whl, den_lc, mask, fzAll, toldEx, rep_1, rep_2, rep_3, eqOk_NONE, eqv_NONE, dep_int, dep_bl, dep_str, dep_non, eqv_int, eqv_bl, eqv_str2, eqOk_int, eqOk_str, natAbs_lit, List.contains_nil, den_gen, genS_nil, genS_cons, testR, isDic, itemsOf, List.all_cons, List.any_cons, id_eq, cast_lit, List.contains_cons, goes_nx, gives_ok, goes_ct, and_self, decide_not, not_false_eq_true, ne_eq])
  have e2 : (ts.map pr).filterMap (fun d => match d with
      | .tup [.int a, .int b] => some (rowD (a, b) row)
      | _ => none) = ts.map fun p => rowD p row := by
    rw [List.filterMap_map]
    exact (List.filterMap_eq_map (f := fun p => rowD p row) ▸ rfl)
  rw [e2] at e
  simp -implicitDefEqProofs only [c_rows_in, startE, List.replicate, List.cons_append, List.nil_append, List.contains_cons, e, den.eq_1, den.eq_2, den.eq_3, den.eq_4, den.eq_5, den.eq_6, den.eq_7, den.eq_8, den.eq_9, den.eq_10, den.eq_11, den.eq_12, den.eq_13, den.eq_14, den.eq_15, den.eq_16, den.eq_17, den.eq_18, den.eq_19, den.eq_20, den.eq_21, den.eq_22, den.eq_23, den.eq_24, den.eq_25, den.eq_26, den.eq_27, den.eq_33, den.eq_34, denB, denF, denR, denL, denD, denI, denT, denO, denS.eq_1, denS.eq_2, denS.eq_3, denS.eq_4, denS.eq_5, denS.eq_6, denS.eq_7, denS.eq_8, denS.eq_11, denS.eq_12, denS.eq_13, denS.eq_14, denS.eq_15, denS.eq_16, denS.eq_17, denBl_c, denBl_e, goB_nx, goB_rt, goB_ct, goB_bk, goF, ↓R.bind_bnd, R.bnd_ok, R.bnd_exc, R.bnd_bad, R.of_some, R.calm_ok, hvI, hvT, hvS, rd, rdH, fz, fzH, res, resAll, setV, setVs, bindT.eq_1, bindT.eq_2, bindTs.eq_1, bindTs.eq_2, wipe, Lit.d, List.getElem?_cons_zero, List.getElem?_cons_succ, List.set_cons_zero, List.set_cons_succ, binop, augop, cmpop, truth, indexD, biop, if_true, if_false, Bool.false_eq_true, Bool.true_and, Bool.and_true, Bool.false_and, Bool.and_false, List.length_cons, List.length_nil, Option.bind_some, Option.map_some, decide_true, decide_false, decide_eq_true_eq, Bool.not_true, Bool.not_false, Bool.or_false, Bool.false_or, Bool.or_true, Bool.true_or, reduceIte, beq_iff_eq, look, isKey_ss, isKey_ii, dkeys_s, dkeys_i, dkey0_s, dkey0_i, List.all_cons, List.all_nil, List.any_cons, List.any_nil, putD, hasKey_c, hasKey_n, putVs, List.cons_beq_cons, BEq.rfl, beq_self_eq_true, goR, endE, List.map_cons, List.map_nil, Nat.reduceBEq, Nat.reduceLeDiff, Nat.reduceEqDiff, Nat.reduceAdd, Nat.reduceMul, Nat.reduceLT, Nat.reduceSub, Int.reduceLT, Int.reduceLE, Int.reduceNeg, Int.reduceMul, Int.reduceAdd, Int.reduceSub, Int.reduceEq, Int.reduceBEq, Int.reduceNe, reduceCtorEq, Int.reduceToNat, Int.natAbs_natCast, Bool.or_self, Bool.and_self, line_lit, bne_self_eq_false, Bool.bne_true, Bool.bne_false, Int.reducePow, sm64_eq, smB_eq, isTy, isiOk, isLit, denS_for0, denS_whl, den_lc, mask, fzAll, toldEx, rep_1, rep_2, rep_3, eqOk_NONE, eqv_NONE, dep_int, dep_bl, dep_str, dep_non, eqv_int, eqv_bl, eqv_str2, eqOk_int, eqOk_str, natAbs_lit, List.contains_nil, den_gen, genS_nil, genS_cons, testR, isDic, itemsOf, List.all_cons, List.any_cons, id_eq, cast_lit, List.contains_cons, goes_nx, gives_ok, goes_ct, and_self, decide_not, not_false_eq_true, ne_eq]
def manyL (ts : List Tr) : List Nat := ts.map fun p => p.2.toNat
theorem comes_F (ts : List Tr) (hl : ts.length ≤ 1000) (ht : ∀ p ∈ ts, okT p) (h : F 4 [.lst ((manyL ts).map fun n : Nat => .int n)] = .ok ((false, .int (comL (manyL ts))), .non)) :
    runF GD F c_comes_again [.tup (ts.map pr)] = .ok ((false, .int (comL (manyL ts))), .non) := by
  rw [runF_def _ _ _ _ ⟨rfl, by decide⟩]
  have e := lcS_fmG GD F [1, 2] (.t [(.n 1), (.n 2)]) .no (.v 2) [some (.imm (.tup (ts.map pr))), none, none] (ts.map pr)
    (fun d => match d with
      | .tup [.int a, .int b] => some (.int b)
      | _ => none) (by rw [List.length_map, line_lit]; omega) (by
      intro d hd
      obtain ⟨p, hp, rfl⟩ := List.mem_map.mp hd
      simp -implicitDefEqProofs only [lcT, pr, den.eq_1, den.eq_2, den.eq_3, den.eq_4, den.eq_5, den.eq_6, den.eq_7, den.eq_8, den.eq_9, den.eq_10, den.eq_11, den.eq_12, den.eq_13, den.eq_14, den.eq_15, den.eq_16, den.eq_17, den.eq_18, den.eq_19, den.eq_20, den.eq_21, den.eq_22, den.eq_23, den.eq_24, den.eq_25, den.eq_26, den.eq_27, den.eq_33, den.eq_34, denB, denF, denR, denL, denD, denI, denT, denO, denS.eq_1, denS.eq_2, denS.eq_3, denS.eq_4, denS.eq_5, denS.eq_6, denS.eq_7, denS.eq_8, denS.eq_11, denS.eq_12, denS.eq_13, denS.eq_14, denS.eq_15, denS.eq_16, denS.eq_17, denBl_c, denBl_e, goB_nx, goB_rt, goB_ct, goB_bk, goF, ↓R.bind_bnd, R.bnd_ok, R.bnd_exc, R.bnd_bad, R.of_some, R.calm_ok, hvI, hvT, hvS, rd, rdH, fz, fzH, res, resAll, setV, setVs, bindT.eq_1, bindT.eq_2, bindTs.eq_1, bindTs.eq_2, wipe, Lit.d, List.getElem?_cons_zero, List.getElem?_cons_succ, List.set_cons_zero, List.set_cons_succ, binop, augop, cmpop, truth, indexD, biop, if_true, if_false, Bool.false_eq_true, Bool.true_and, Bool.and_true, Bool.false_and, Bool.and_false, List.length_cons, List.length_nil, Option.bind_some, Option.map_some, decide_true, decide_false, decide_eq_true_eq, Bool.not_true, Bool.not_false, Bool.or_false, Bool.false_or, Bool.or_true, Bool.true_or, reduceIte, beq_iff_eq, look, isKey_ss, isKey_ii, dkeys_s, dkeys_i, dkey0_s, dkey0_i, List.all_cons, List.all_nil, List.any_cons, List.any_nil, putD, hasKey_c, hasKey_n, putVs, List.cons_beq_cons, BEq.rfl, beq_self_eq_true, goR, endE, List.map_cons, List.map_nil, Nat.reduceBEq, Nat.reduceLeDiff, Nat.reduceEqDiff, Nat.reduceAdd, Nat.reduceMul, Nat.reduceLT, Nat.reduceSub, Int.reduceLT, Int.reduceLE, Int.reduceNeg, Int.reduceMul, Int.reduceAdd, Int.reduceSub, Int.reduceEq, Int.reduceBEq, Int.reduceNe, reduceCtorEq, Int.reduceToNat, Int.natAbs_natCast, Bool.or_self, Bool.and_self, line_lit, bne_self_eq_false, Bool.bne_true, Bool.bne_false, Int.reducePow, sm64_eq, smB_eq, isTy, isiOk, isLit, denS_for0, denS_whl, den_lc, mask, fzAll, toldEx, rep_1, rep_2, rep_3, eqOk_NONE, eqv_NONE, dep_int, dep_bl, dep_str, dep_non, eqv_int, eqv_bl, eqv_str2, eqOk_int, eqOk_str, natAbs_lit, List.contains_nil, den_gen, genS_nil, genS_cons, testR, isDic, itemsOf, List.all_cons, List.any_cons, id_eq, cast_lit, List.contains_cons, goes_nx, gives_ok, goes_ct, and_self, decide_not, not_false_eq_true, ne_eq])
  have e2 : (ts.map pr).filterMap (fun d => match d with
      | .tup [.int a, .int b] => some (D.int b)
      | _ => none) = (manyL ts).map fun n : Nat => D.int n := by
    rw [List.filterMap_map, manyL, List.map_map]
    have : ((fun n : Nat => D.int n) ∘ fun p : Tr => p.2.toNat) = fun p : Tr => D.int (p.2.toNat : Nat) := rfl
    rw [this]
    have h3 : ∀ p ∈ ts, ((fun d => match d with
      | .tup [.int a, .int b] => some (D.int b)
      | _ => none) ∘ pr) p = some (D.int (p.2.toNat : Nat)) := by
      intro p hp
      obtain ⟨_, _, q3, _⟩ := ht p hp
      show some (D.int p.2) = _
      congr 2; omega
    rw [filterMap_congr' _ _ ts h3]
    exact (List.filterMap_eq_map (f := fun p : Tr => D.int (p.2.toNat : Nat)) ▸ rfl)
  rw [e2] at e
  simp -implicitDefEqProofs only [c_comes_again, startE, List.replicate, List.cons_append, List.nil_append, List.contains_cons, e, h, den.eq_1, den.eq_2, den.eq_3, den.eq_4, den.eq_5, den.eq_6, den.eq_7, den.eq_8, den.eq_9, den.eq_10, den.eq_11, den.eq_12, den.eq_13, den.eq_14, den.eq_15, den.eq_16, den.eq_17, den.eq_18, den.eq_19, den.eq_20, den.eq_21, den.eq_22, den.eq_23, den.eq_24, den.eq_25, den.eq_26, den.eq_27, den.eq_33, den.eq_34, denB, denF, denR, denL, denD, denI, denT, denO, denS.eq_1, denS.eq_2, denS.eq_3, denS.eq_4, denS.eq_5, denS.eq_6, denS.eq_7, denS.eq_8, denS.eq_11, denS.eq_12, denS.eq_13, denS.eq_14, denS.eq_15, denS.eq_16, denS.eq_17, denBl_c, denBl_e, goB_nx, goB_rt, goB_ct, goB_bk, goF, ↓R.bind_bnd, R.bnd_ok, R.bnd_exc, R.bnd_bad, R.of_some, R.calm_ok, hvI, hvT, hvS, rd, rdH, fz, fzH, res, resAll, setV, setVs, bindT.eq_1, bindT.eq_2, bindTs.eq_1, bindTs.eq_2, wipe, Lit.d, List.getElem?_cons_zero, List.getElem?_cons_succ, List.set_cons_zero, List.set_cons_succ, binop, augop, cmpop, truth, indexD, biop, if_true, if_false, Bool.false_eq_true, Bool.true_and, Bool.and_true, Bool.false_and, Bool.and_false, List.length_cons, List.length_nil, Option.bind_some, Option.map_some, decide_true, decide_false, decide_eq_true_eq, Bool.not_true, Bool.not_false, Bool.or_false, Bool.false_or, Bool.or_true, Bool.true_or, reduceIte, beq_iff_eq, look, isKey_ss, isKey_ii, dkeys_s, dkeys_i, dkey0_s, dkey0_i, List.all_cons, List.all_nil, List.any_cons, List.any_nil, putD, hasKey_c, hasKey_n, putVs, List.cons_beq_cons, BEq.rfl, beq_self_eq_true, goR, endE, List.map_cons, List.map_nil, Nat.reduceBEq, Nat.reduceLeDiff, Nat.reduceEqDiff, Nat.reduceAdd, Nat.reduceMul, Nat.reduceLT, Nat.reduceSub, Int.reduceLT, Int.reduceLE, Int.reduceNeg, Int.reduceMul, Int.reduceAdd, Int.reduceSub, Int.reduceEq, Int.reduceBEq, Int.reduceNe, reduceCtorEq, Int.reduceToNat, Int.natAbs_natCast, Bool.or_self, Bool.and_self, line_lit, bne_self_eq_false, Bool.bne_true, Bool.bne_false, Int.reducePow, sm64_eq, smB_eq, isTy, isiOk, isLit, denS_for0, denS_whl, den_lc, mask, fzAll, toldEx, rep_1, rep_2, rep_3, eqOk_NONE, eqv_NONE, dep_int, dep_bl, dep_str, dep_non, eqv_int, eqv_bl, eqv_str2, eqOk_int, eqOk_str, natAbs_lit, List.contains_nil, den_gen, genS_nil, genS_cons, testR, isDic, itemsOf, List.all_cons, List.any_cons, id_eq, cast_lit, List.contains_cons, goes_nx, gives_ok, goes_ct, and_self, decide_not, not_false_eq_true, ne_eq]
/-! ### what is none -/
theorem bad_w : ∀ d ∈ ([.tup [], .tup [.tup [.int 0, .int 1]], .tup [.tup [.int 1, .int 0]], .tup [.tup [.int 1001, .int 1]], .tup [.tup [.int 1, .int 1001]], .tup [.tup [.bl true, .int 1]], .tup [.tup [.int 1, .str [49]]], .tup [.tup [.int 1]],
    .tup [.tup [.int 1, .int 1, .int 1]], .tup [.lst [.int 1, .int 1]], .lst [.tup [.int 1, .int 1000]], .tup (List.replicate 9 (.tup [.int 1, .int 1000])), .non, .tup [.int 1, .int 1000], .tup [.tup [.int 1, .int 1000], .non]] : List D),
    runF GD F c_is_tracks [d] = .ok ((false, .bl false), .non) := by
  intro d hd
  simp -implicitDefEqProofs only [List.mem_cons, List.not_mem_nil, or_false] at hd
  rcases hd with rfl | rfl | rfl | rfl | rfl | rfl | rfl | rfl | rfl | rfl | rfl | rfl | rfl | rfl | rfl <;>
    (rw [runF_def _ _ _ _ ⟨rfl, by decide⟩]; simp -implicitDefEqProofs only [c_is_tracks, startE, List.replicate, List.cons_append, List.nil_append, forLoop_c, forLoop_nil, forT, List.any_nil, List.all_nil, den.eq_1, den.eq_2, den.eq_3, den.eq_4, den.eq_5, den.eq_6, den.eq_7, den.eq_8, den.eq_9, den.eq_10, den.eq_11, den.eq_12, den.eq_13, den.eq_14, den.eq_15, den.eq_16, den.eq_17, den.eq_18, den.eq_19, den.eq_20, den.eq_21, den.eq_22, den.eq_23, den.eq_24, den.eq_25, den.eq_26, den.eq_27, den.eq_33, den.eq_34, denB, denF, denR, denL, denD, denI, denT, denO, denS.eq_1, denS.eq_2, denS.eq_3, denS.eq_4, denS.eq_5, denS.eq_6, denS.eq_7, denS.eq_8, denS.eq_11, denS.eq_12, denS.eq_13, denS.eq_14, denS.eq_15, denS.eq_16, denS.eq_17, denBl_c, denBl_e, goB_nx, goB_rt, goB_ct, goB_bk, goF, ↓R.bind_bnd, R.bnd_ok, R.bnd_exc, R.bnd_bad, R.of_some, R.calm_ok, hvI, hvT, hvS, rd, rdH, fz, fzH, res, resAll, setV, setVs, bindT.eq_1, bindT.eq_2, bindTs.eq_1, bindTs.eq_2, wipe, Lit.d, List.getElem?_cons_zero, List.getElem?_cons_succ, List.set_cons_zero, List.set_cons_succ, binop, augop, cmpop, truth, indexD, biop, if_true, if_false, Bool.false_eq_true, Bool.true_and, Bool.and_true, Bool.false_and, Bool.and_false, List.length_cons, List.length_nil, Option.bind_some, Option.map_some, decide_true, decide_false, decide_eq_true_eq, Bool.not_true, Bool.not_false, Bool.or_false, Bool.false_or, Bool.or_true, Bool.true_or, reduceIte, beq_iff_eq, look, isKey_ss, isKey_ii, dkeys_s, dkeys_i, dkey0_s, dkey0_i, List.all_cons, List.all_nil, List.any_cons, List.any_nil, putD, hasKey_c, hasKey_n, putVs, List.cons_beq_cons, BEq.rfl, beq_self_eq_true, goR, endE, List.map_cons, List.map_nil, Nat.reduceBEq, Nat.reduceLeDiff, Nat.reduceEqDiff, Nat.reduceAdd, Nat.reduceMul, Nat.reduceLT, Nat.reduceSub, Int.reduceLT, Int.reduceLE, Int.reduceNeg, Int.reduceMul, Int.reduceAdd, Int.reduceSub, Int.reduceEq, Int.reduceBEq, Int.reduceNe, reduceCtorEq, Int.reduceToNat, Int.natAbs_natCast, Bool.or_self, Bool.and_self, line_lit, bne_self_eq_false, Bool.bne_true, Bool.bne_false, Int.reducePow, sm64_eq, smB_eq, isTy, isiOk, isLit, denS_for0, denS_whl, den_lc, mask, fzAll, toldEx, rep_1, rep_2, rep_3, eqOk_NONE, eqv_NONE, dep_int, dep_bl, dep_str, dep_non, eqv_int, eqv_bl, eqv_str2, eqOk_int, eqOk_str, natAbs_lit, List.contains_nil, den_gen, genS_nil, genS_cons, testR, isDic, itemsOf, List.all_cons, List.any_cons, id_eq, cast_lit, List.contains_cons, goes_nx, gives_ok, goes_ct, and_self, decide_not, not_false_eq_true, ne_eq])
end
end Kn.L

end

section
namespace Kn.L
def okS (p : Tr) : Prop := 1 ≤ p.1 ∧ p.1 ≤ 30 ∧ 1 ≤ p.2 ∧ p.2 ≤ 30
theorem okS.t {p : Tr} (h : okS p) : okT p := ⟨h.1, by have := h.2.1; omega, h.2.2.1, by have := h.2.2.2; omega⟩
def F : Nat → Fn := run GD defs 19
theorem good_ok (ts : List Tr) (h0 : 1 ≤ ts.length) (h8 : ts.length ≤ 8) (ht : ∀ p ∈ ts, okT p) : F 0 [.tup (ts.map pr)] = .ok ((false, .bl true), .non) := by
  rw [F, run_s GD (f := c_is_tracks) rfl]; exact is_good _ ts h0 h8 ht
theorem row_ok (p : Tr) (row : Int) (hm : 1 ≤ p.2) : F 1 [pr p, .int row] = .ok ((false, rowD p row), .non) := by
  rw [F, run_s GD (f := c_row_in) rfl]; exact row_F _ p row hm
theorem rows_ok (ts : List Tr) (row : Int) (hl : ts.length ≤ 1000) (ht : ∀ p ∈ ts, okS p) : F 2 [.tup (ts.map pr), .int row] = .ok ((true, .lst (ts.map fun p => rowD p row)), .non) := by
  rw [F, run_s GD (f := c_rows_in) rfl]
  exact rows_F _ ts row hl fun p hp => by rw [run_s GD (f := c_row_in) rfl]; exact row_F _ p row (ht p hp).2.2.1
theorem next_at_ok (p : Tr) (place row : Int) (hm : 1 ≤ p.2) : F 3 [pr p, .int place, .int row] = if 1 ≤ place ∧ place ≤ p.2 then .ok ((false, .int (nextI p place row)), .non) else .exc 0 .non := by
  rw [F, run_s GD (f := c_next_at) rfl]; exact next_F _ p place row hm
theorem common_ok (ns : List Nat) (h : ∀ n ∈ ns, 1 ≤ n ∧ n ≤ 1000) : F 4 [.lst (ns.map fun n : Nat => .int n)] = .ok ((false, .int (comL ns)), .non) := by
  rw [F, run_s GD (f := c_common) rfl]; exact common_F _ ns h
theorem many_ok (ts : List Tr) (ht : ∀ p ∈ ts, okS p) : ∀ n ∈ manyL ts, 1 ≤ n ∧ n ≤ 1000 := by
  intro n hn
  obtain ⟨p, hp, rfl⟩ := List.mem_map.mp hn
  obtain ⟨_, _, q3, q4⟩ := ht p hp
  omega
theorem comes_ok (ts : List Tr) (hl : ts.length ≤ 1000) (ht : ∀ p ∈ ts, okS p) : F 5 [.tup (ts.map pr)] = .ok ((false, .int (comL (manyL ts))), .non) := by
  rw [F, run_s GD (f := c_comes_again) rfl]
  exact comes_F _ ts hl (fun p hp => (ht p hp).t) (by rw [run_s GD (f := c_common) rfl]; exact common_F _ _ (many_ok ts ht))
theorem div_ok (x y : Nat) (hy : y < 1000000) : F 11 [.int x, .int y] = .ok ((false, .int (Nat.gcd x y)), .non) := by
  rw [F, run_s GD (f := c__law_divisor) rfl]; exact div_F _ x y hy
theorem nx_ok (b : Bx) (m : Int) (hm : 0 < m) : F 8 [b.d, .int m] = .ok ((false, .int (b.v m)), b.nx.d) := next_ok GD (i := 8) rfl _ b m hm
theorem is_int (i : Int) : F 9 [.int i, .int i] = .ok ((false, .bl true), .non) := is_ok GD (i := 9) rfl 19 0 (.int i) trivial (by decide)
theorem plain_row (n : Nat) (p : Tr) (row : Int) : Plain n (rowD p row) := by
  unfold rowD; split <;> cases n <;> trivial
theorem is_row (p : Tr) (row : Int) : F 9 [rowD p row, rowD p row] = .ok ((false, .bl true), .non) := is_ok GD (i := 9) rfl 19 0 _ (plain_row 0 p row) (by decide)
theorem is_rows (ts : List Tr) (row : Int) (hl : ts.length ≤ 1000) : F 9 [.lst (ts.map fun p => rowD p row), .lst (ts.map fun p => rowD p row)] = .ok ((false, .bl true), .non) := by
  refine is_ok GD (i := 9) rfl 19 1 _ ⟨by rw [List.length_map, line_lit]; omega, fun d hd => ?_⟩ (by decide)
  obtain ⟨p, _, rfl⟩ := List.mem_map.mp hd
  exact plain_row 0 p row
theorem bad_ok (d : D) (hd : d ∈ ([.tup [], .tup [.tup [.int 0, .int 1]], .tup [.tup [.int 1, .int 0]], .tup [.tup [.int 1001, .int 1]], .tup [.tup [.int 1, .int 1001]], .tup [.tup [.bl true, .int 1]], .tup [.tup [.int 1, .str [49]]], .tup [.tup [.int 1]],
    .tup [.tup [.int 1, .int 1, .int 1]], .tup [.lst [.int 1, .int 1]], .lst [.tup [.int 1, .int 1000]], .tup (List.replicate 9 (.tup [.int 1, .int 1000])), .non, .tup [.int 1, .int 1000], .tup [.tup [.int 1, .int 1000], .non]] : List D)) : F 0 [d] = .ok ((false, .bl false), .non) := by
  rw [F, run_s GD (f := c_is_tracks) rfl]; exact bad_w _ d hd
theorem allBl_rep' (n : Nat) : allBl (List.replicate n (.bl true)) = some (List.replicate n true) := allBl_rep n

/-! ### the end -/
theorem law_l5 {r0 r1 r2 r3 r4 r5 r6 r7 r8 r9 r10 r11 r12 r13 r14 r15 r16 r17 r18 r19 r20 : Option PV} (xs : List D) (h : ∀ d ∈ xs, F 0 [d] = .ok ((false, .bl false), .non)) (hl : xs.length ≤ 1000) :
    lcS GD F [20] (.n 20) .no (.isl false (.bl false) (.call 0 (.cons (.v 20) .nil))) xs [r0, r1, r2, r3, r4, r5, r6, r7, r8, r9, r10, r11, r12, r13, r14, r15, r16, r17, r18, r19, r20] = .ok (.tmp (.lst (List.replicate xs.length (.bl true))), [r0, r1, r2, r3, r4, r5, r6, r7, r8, r9, r10, r11, r12, r13, r14, r15, r16, r17, r18, r19, r20]) := by
  rw [lcS_fmG GD F _ _ _ _ _ _ (fun _ => some (.bl true)) (by rw [line_lit]; omega) ?_]
  · rw [fm_const]
  · intro d hd
    simp -implicitDefEqProofs only [lcT, h d hd, den.eq_1, den.eq_2, den.eq_3, den.eq_4, den.eq_5, den.eq_6, den.eq_7, den.eq_8, den.eq_9, den.eq_10, den.eq_11, den.eq_12, den.eq_13, den.eq_14, den.eq_15, den.eq_16, den.eq_17, den.eq_18, den.eq_19, den.eq_20, den.eq_21, den.eq_22, den.eq_23, den.eq_24, den.eq_25, den.eq_26, den.eq_27, den.eq_33, den.eq_34, denB, denF, denR, denL, denD, denI, denT, denO, denS.eq_1, denS.eq_2, denS.eq_3, denS.eq_4, denS.eq_5, denS.eq_6, denS.eq_7, denS.eq_8, denS.eq_11, denS.eq_12, denS.eq_13, denS.eq_14, denS.eq_15, denS.eq_16, denS.eq_17, denBl_c, denBl_e, goB_nx, goB_rt, goB_ct, goB_bk, goF, ↓R.bind_bnd, R.bnd_ok, R.bnd_exc, R.bnd_bad, R.of_some, R.calm_ok, hvI, hvT, hvS, rd, rdH, fz, fzH, res, resAll, setV, setVs, bindT.eq_1, bindT.eq_2, bindTs.eq_1, bindTs.eq_2, wipe, Lit.d, List.getElem?_cons_zero, List.getElem?_cons_succ, List.set_cons_zero, List.set_cons_succ, binop, augop, cmpop, truth, indexD, biop, if_true, if_false, Bool.false_eq_true, Bool.true_and, Bool.and_true, Bool.false_and, Bool.and_false, List.length_cons, List.length_nil, Option.bind_some, Option.map_some, decide_true, decide_false, decide_eq_true_eq, Bool.not_true, Bool.not_false, Bool.or_false, Bool.false_or, Bool.or_true, Bool.true_or, reduceIte, beq_iff_eq, look, isKey_ss, isKey_ii, dkeys_s, dkeys_i, dkey0_s, dkey0_i, List.all_cons, List.all_nil, List.any_cons, List.any_nil, putD, hasKey_c, hasKey_n, putVs, List.cons_beq_cons, BEq.rfl, beq_self_eq_true, goR, endE, List.map_cons, List.map_nil, Nat.reduceBEq, Nat.reduceLeDiff, Nat.reduceEqDiff, Nat.reduceAdd, Nat.reduceMul, Nat.reduceLT, Nat.reduceSub, Int.reduceLT, Int.reduceLE, Int.reduceNeg, Int.reduceMul, Int.reduceAdd, Int.reduceSub, Int.reduceEq, Int.reduceBEq, Int.reduceNe, reduceCtorEq, Int.reduceToNat, Int.natAbs_natCast, Bool.or_self, Bool.and_self, line_lit, bne_self_eq_false, Bool.bne_true, Bool.bne_false, Int.reducePow, sm64_eq, smB_eq, isTy, isiOk, isLit, denS_for0, denS_whl, den_lc, mask, fzAll, toldEx, rep_1, rep_2, rep_3, eqOk_NONE, eqv_NONE, dep_int, dep_bl, dep_str, dep_non, eqv_int, eqv_bl, eqv_str2, eqOk_int, eqOk_str, natAbs_lit, List.contains_nil, den_gen, genS_nil, genS_cons, testR, isDic, itemsOf, List.all_cons, List.any_cons, id_eq, cast_lit, List.contains_cons, goes_nx, gives_ok, goes_ct, and_self, decide_not, not_false_eq_true, ne_eq]
theorem law_13 (r0 r1 r2 r3 r4 r5 r6 r7 r8 r9 r10 r11 r12 r13 r14 r15 r16 r17 r18 r19 r20 : Option PV) : ∃ ρ', (denBl GD F false (.c (.set 18 (.tup (.cons (.k (.int 1)) (.cons (.k (.int 1000)) .nil)))) (.c (.set 19 (.lst (.cons (.tup .nil) (.cons (.tup (.cons (.tup (.cons (.k (.int 0)) (.cons (.k (.int 1)) .nil))) .nil)) (.cons (.tup (.cons (.tup (.cons (.k (.int 1)) (.cons (.k (.int 0)) .nil))) .nil)) (.cons (.tup (.cons (.tup (.cons (.k (.int 1001)) (.cons (.k (.int 1)) .nil))) .nil)) (.cons (.tup (.cons (.tup (.cons (.k (.int 1)) (.cons (.k (.int 1001)) .nil))) .nil)) (.cons (.tup (.cons (.tup (.cons (.k (.bl true)) (.cons (.k (.int 1)) .nil))) .nil)) (.cons (.tup (.cons (.tup (.cons (.k (.int 1)) (.cons (.k (.str [49])) .nil))) .nil)) (.cons (.tup (.cons (.tup (.cons (.k (.int 1)) .nil)) .nil)) (.cons (.tup (.cons (.tup (.cons (.k (.int 1)) (.cons (.k (.int 1)) (.cons (.k (.int 1)) .nil)))) .nil)) (.cons (.tup (.cons (.lst (.cons (.k (.int 1)) (.cons (.k (.int 1)) .nil))) .nil)) (.cons (.lst (.cons (.v 18) .nil)) (.cons (.bin .mul (.tup (.cons (.v 18) .nil)) (.k (.int 9))) (.cons (.k .non) (.cons (.v 18) (.cons (.tup (.cons (.v 18) (.cons (.k .non) .nil))) .nil))))))))))))))))) (.c (.ret (.and (.isl false (.bl true) (.call 0 (.cons (.bin .mul (.tup (.cons (.v 18) .nil)) (.k (.int 8))) .nil))) (.and (.isl false (.bl true) (.call 0 (.cons (.tup (.cons (.tup (.cons (.k (.int 1000)) (.cons (.k (.int 1)) .nil))) .nil)) .nil))) (.bi .all (.cons (.lc [20] (.n 20) (.ex (.v 19)) .no (.isl false (.bl false) (.call 0 (.cons (.v 20) .nil)))) .nil))))) .e)))) [r0, r1, r2, r3, r4, r5, r6, r7, r8, r9, r10, r11, r12, r13, r14, r15, r16, r17, r18, r19, r20] = .ok (.rt false (.bl true) ρ') := by
  have g8 : F 0 [.tup (List.replicate 8 (.tup [.int 1, .int 1000]))] = .ok ((false, .bl true), .non) := good_ok (List.replicate 8 (1, 1000)) (by decide) (by decide) (fun p hp => by rw [List.eq_of_mem_replicate hp]; exact ⟨by decide, by decide, by decide, by decide⟩)
  have g1 : F 0 [.tup [.tup [.int 1000, .int 1]]] = .ok ((false, .bl true), .non) := good_ok [(1000, 1)] (by decide) (by decide) (fun p hp => by rw [List.mem_singleton.mp hp]; exact ⟨by decide, by decide, by decide, by decide⟩)
  have l := fun r0 r1 r2 r3 r4 r5 r6 r7 r8 r9 r10 r11 r12 r13 r14 r15 r16 r17 r18 r19 r20 => @law_l5 r0 r1 r2 r3 r4 r5 r6 r7 r8 r9 r10 r11 r12 r13 r14 r15 r16 r17 r18 r19 r20 _ bad_ok (by decide)
  have ar := allBl_rep 15
  have a1 := all_rep 15
  simp -implicitDefEqProofs only [List.length_cons, List.length_nil, Nat.reduceAdd] at l
  simp -implicitDefEqProofs only [g8, g1, l, ar, a1, rep_single, den.eq_1, den.eq_2, den.eq_3, den.eq_4, den.eq_5, den.eq_6, den.eq_7, den.eq_8, den.eq_9, den.eq_10, den.eq_11, den.eq_12, den.eq_13, den.eq_14, den.eq_15, den.eq_16, den.eq_17, den.eq_18, den.eq_19, den.eq_20, den.eq_21, den.eq_22, den.eq_23, den.eq_24, den.eq_25, den.eq_26, den.eq_27, den.eq_33, den.eq_34, denB, denF, denR, denL, denD, denI, denT, denO, denS.eq_1, denS.eq_2, denS.eq_3, denS.eq_4, denS.eq_5, denS.eq_6, denS.eq_7, denS.eq_8, denS.eq_11, denS.eq_12, denS.eq_13, denS.eq_14, denS.eq_15, denS.eq_16, denS.eq_17, denBl_c, denBl_e, goB_nx, goB_rt, goB_ct, goB_bk, goF, ↓R.bind_bnd, R.bnd_ok, R.bnd_exc, R.bnd_bad, R.of_some, R.calm_ok, hvI, hvT, hvS, rd, rdH, fz, fzH, res, resAll, setV, setVs, bindT.eq_1, bindT.eq_2, bindTs.eq_1, bindTs.eq_2, wipe, Lit.d, List.getElem?_cons_zero, List.getElem?_cons_succ, List.set_cons_zero, List.set_cons_succ, binop, augop, cmpop, truth, indexD, biop, if_true, if_false, Bool.false_eq_true, Bool.true_and, Bool.and_true, Bool.false_and, Bool.and_false, List.length_cons, List.length_nil, Option.bind_some, Option.map_some, decide_true, decide_false, decide_eq_true_eq, Bool.not_true, Bool.not_false, Bool.or_false, Bool.false_or, Bool.or_true, Bool.true_or, reduceIte, beq_iff_eq, look, isKey_ss, isKey_ii, dkeys_s, dkeys_i, dkey0_s, dkey0_i, List.all_cons, List.all_nil, List.any_cons, List.any_nil, putD, hasKey_c, hasKey_n, putVs, List.cons_beq_cons, BEq.rfl, beq_self_eq_true, goR, endE, List.map_cons, List.map_nil, Nat.reduceBEq, Nat.reduceLeDiff, Nat.reduceEqDiff, Nat.reduceAdd, Nat.reduceMul, Nat.reduceLT, Nat.reduceSub, Int.reduceLT, Int.reduceLE, Int.reduceNeg, Int.reduceMul, Int.reduceAdd, Int.reduceSub, Int.reduceEq, Int.reduceBEq, Int.reduceNe, reduceCtorEq, Int.reduceToNat, Int.natAbs_natCast, Bool.or_self, Bool.and_self, line_lit, bne_self_eq_false, Bool.bne_true, Bool.bne_false, Int.reducePow, sm64_eq, smB_eq, isTy, isiOk, isLit, denS_for0, denS_whl, den_lc, mask, fzAll, toldEx, rep_1, rep_2, rep_3, eqOk_NONE, eqv_NONE, dep_int, dep_bl, dep_str, dep_non, eqv_int, eqv_bl, eqv_str2, eqOk_int, eqOk_str, natAbs_lit, List.contains_nil, den_gen, genS_nil, genS_cons, testR, isDic, itemsOf, List.all_cons, List.any_cons, id_eq, cast_lit, List.contains_cons, goes_nx, gives_ok, goes_ct, and_self, decide_not, not_false_eq_true, ne_eq]
  exact ⟨_, rfl⟩

/-! ### where all are again as they are -/
theorem depL_row (ts : List Tr) (row : Int) : D.depL (ts.map fun p => rowD p row) = 0 := by
  induction ts with
  | nil => simp [D.depL]
  | cons a r ih => rw [List.map_cons, D.depL, ih]; unfold rowD; split <;> simp [D.dep]
theorem eqOk_row (ts : List Tr) (row : Int) : eqOk (.lst (ts.map fun p => rowD p row)) (.lst (ts.map fun p => rowD p row)) = true := by
  simp [eqOk, eqOk0, D.dep, depL_row]
theorem eqv_rowD (p : Tr) (row : Int) : D.eqv (rowD p row) (rowD p row) = true := by
  unfold rowD; split <;> simp [D.eqv]
theorem eqvL_row (ts : List Tr) (row : Int) : D.eqvL (ts.map fun p => rowD p row) (ts.map fun p => rowD p row) = true := by
  induction ts with
  | nil => simp [D.eqvL]
  | cons a r ih => rw [List.map_cons, D.eqvL, ih, eqv_rowD]; rfl
theorem eqv_row (ts : List Tr) (row : Int) : D.eqv (.lst (ts.map fun p => rowD p row)) (.lst (ts.map fun p => rowD p row)) = true := by
  simp [D.eqv, eqvL_row]
theorem maxI_ge (ns : List Int) : ∀ n : Int, n ≤ maxI n ns ∧ ∀ y ∈ ns, y ≤ maxI n ns := by
  induction ns with
  | nil => intro n; simp [maxI]
  | cons x r ih =>
    intro n
    have e : maxI n (x :: r) = maxI (if n < x then x else n) r := rfl
    obtain ⟨h1, h2⟩ := ih (if n < x then x else n)
    rw [e]
    refine ⟨Int.le_trans (by split <;> omega) h1, fun y hy => ?_⟩
    rcases List.mem_cons.mp hy with rfl | hy
    · exact Int.le_trans (by split <;> omega) h1
    · exact h2 y hy
theorem late_eq (ts : List Tr) (ht : ∀ p ∈ ts, okS p) (late : Int) (h : ∀ p ∈ ts, p.1 ≤ late) : (ts.map fun p => rowD p (late + (comL (manyL ts) : Nat))) = ts.map fun p => rowD p late := by
  apply List.map_congr_left
  intro p hp
  obtain ⟨q1, q2, q3, q4⟩ := ht p hp
  have hd : p.2.toNat ∣ comL (manyL ts) := lcm_bd (manyL ts) 1 _ (List.mem_map.mpr ⟨p, hp, rfl⟩)
  obtain ⟨k, hk⟩ := hd
  have hl := h p hp
  have hw : ((comL (manyL ts) : Nat) : Int) = p.2 * (k : Int) := by rw [hk]; push_cast; rw [Int.toNat_of_nonneg (by omega)]
  unfold rowD
  rw [if_neg (by omega), if_neg (by omega), hw]
  congr 2
  rw [show late + p.2 * (k : Int) - p.1 = late - p.1 + p.2 * (k : Int) by omega, Int.add_mul_emod_self_left]
theorem law_l4 {r0 r1 r2 r3 r4 r5 r6 r7 r8 r9 r10 r11 r12 r13 r14 r15 r16 r17 r18 r19 r20 : Option PV} (ts : List Tr) (hl : ts.length ≤ 1000) :
    lcS GD F [10] (.n 10) .no (.ix (.v 10) (.k (.int 0))) (ts.map pr) [r0, r1, r2, r3, r4, r5, r6, r7, r8, r9, r10, r11, r12, r13, r14, r15, r16, r17, r18, r19, r20] = .ok (.tmp (.lst ((ts.map (·.1)).map .int)), [r0, r1, r2, r3, r4, r5, r6, r7, r8, r9, r10, r11, r12, r13, r14, r15, r16, r17, r18, r19, r20]) := by
  rw [lcS_fmG GD F _ _ _ _ _ _ (fun d => match d with
      | .tup [.int a, .int b] => some (.int a)
      | _ => none) (by rw [List.length_map, line_lit]; omega) ?_]
  · rw [List.filterMap_map, List.map_map]
    congr 3
    exact (List.filterMap_eq_map (f := fun p : Tr => D.int p.1) ▸ rfl)
  · intro d hd
    obtain ⟨p, hp, rfl⟩ := List.mem_map.mp hd
    have a0 := atI_nn [D.int p.1, D.int p.2] 0 (by decide) (by simp)
    change _ = some (D.int p.1) at a0
    simp -implicitDefEqProofs only [lcT, pr, a0, den.eq_1, den.eq_2, den.eq_3, den.eq_4, den.eq_5, den.eq_6, den.eq_7, den.eq_8, den.eq_9, den.eq_10, den.eq_11, den.eq_12, den.eq_13, den.eq_14, den.eq_15, den.eq_16, den.eq_17, den.eq_18, den.eq_19, den.eq_20, den.eq_21, den.eq_22, den.eq_23, den.eq_24, den.eq_25, den.eq_26, den.eq_27, den.eq_33, den.eq_34, denB, denF, denR, denL, denD, denI, denT, denO, denS.eq_1, denS.eq_2, denS.eq_3, denS.eq_4, denS.eq_5, denS.eq_6, denS.eq_7, denS.eq_8, denS.eq_11, denS.eq_12, denS.eq_13, denS.eq_14, denS.eq_15, denS.eq_16, denS.eq_17, denBl_c, denBl_e, goB_nx, goB_rt, goB_ct, goB_bk, goF, ↓R.bind_bnd, R.bnd_ok, R.bnd_exc, R.bnd_bad, R.of_some, R.calm_ok, hvI, hvT, hvS, rd, rdH, fz, fzH, res, resAll, setV, setVs, bindT.eq_1, bindT.eq_2, bindTs.eq_1, bindTs.eq_2, wipe, Lit.d, List.getElem?_cons_zero, List.getElem?_cons_succ, List.set_cons_zero, List.set_cons_succ, binop, augop, cmpop, truth, indexD, biop, if_true, if_false, Bool.false_eq_true, Bool.true_and, Bool.and_true, Bool.false_and, Bool.and_false, List.length_cons, List.length_nil, Option.bind_some, Option.map_some, decide_true, decide_false, decide_eq_true_eq, Bool.not_true, Bool.not_false, Bool.or_false, Bool.false_or, Bool.or_true, Bool.true_or, reduceIte, beq_iff_eq, look, isKey_ss, isKey_ii, dkeys_s, dkeys_i, dkey0_s, dkey0_i, List.all_cons, List.all_nil, List.any_cons, List.any_nil, putD, hasKey_c, hasKey_n, putVs, List.cons_beq_cons, BEq.rfl, beq_self_eq_true, goR, endE, List.map_cons, List.map_nil, Nat.reduceBEq, Nat.reduceLeDiff, Nat.reduceEqDiff, Nat.reduceAdd, Nat.reduceMul, Nat.reduceLT, Nat.reduceSub, Int.reduceLT, Int.reduceLE, Int.reduceNeg, Int.reduceMul, Int.reduceAdd, Int.reduceSub, Int.reduceEq, Int.reduceBEq, Int.reduceNe, reduceCtorEq, Int.reduceToNat, Int.natAbs_natCast, Bool.or_self, Bool.and_self, line_lit, bne_self_eq_false, Bool.bne_true, Bool.bne_false, Int.reducePow, sm64_eq, smB_eq, isTy, isiOk, isLit, denS_for0, denS_whl, den_lc, mask, fzAll, toldEx, rep_1, rep_2, rep_3, eqOk_NONE, eqv_NONE, dep_int, dep_bl, dep_str, dep_non, eqv_int, eqv_bl, eqv_str2, eqOk_int, eqOk_str, natAbs_lit, List.contains_nil, den_gen, genS_nil, genS_cons, testR, isDic, itemsOf, List.all_cons, List.any_cons, id_eq, cast_lit, List.contains_cons, goes_nx, gives_ok, goes_ct, and_self, decide_not, not_false_eq_true, ne_eq]
theorem law_11 (ts : List Tr) (b : Bx) (h0 : 1 ≤ ts.length) (hl : ts.length ≤ 8) (ht : ∀ p ∈ ts, okS p) (r0 r3 r4 r5 r6 r7 r8 r9 r10 r11 r12 r13 r14 r16 r17 r18 r19 r20 : Option PV) :
    ∃ ρ', (denBl GD F false (.c (.set 17 (.bin .add (.bi .max (.cons (.lc [10] (.n 10) (.ex (.v 2)) .no (.ix (.v 10) (.k (.int 0)))) .nil)) (.cio 8 1 (.cons (.k (.int 50)) .nil)))) (.c (.iff (.cmp .ne (.call 2 (.cons (.v 2) (.cons (.v 17) .nil))) (.call 2 (.cons (.v 2) (.cons (.bin .add (.v 17) (.v 15)) .nil)))) (.c (.ret (.k (.bl false))) .e) .e) (.c (.set 18 (.tup (.cons (.k (.int 1)) (.cons (.k (.int 1000)) .nil)))) (.c (.set 19 (.lst (.cons (.tup .nil) (.cons (.tup (.cons (.tup (.cons (.k (.int 0)) (.cons (.k (.int 1)) .nil))) .nil)) (.cons (.tup (.cons (.tup (.cons (.k (.int 1)) (.cons (.k (.int 0)) .nil))) .nil)) (.cons (.tup (.cons (.tup (.cons (.k (.int 1001)) (.cons (.k (.int 1)) .nil))) .nil)) (.cons (.tup (.cons (.tup (.cons (.k (.int 1)) (.cons (.k (.int 1001)) .nil))) .nil)) (.cons (.tup (.cons (.tup (.cons (.k (.bl true)) (.cons (.k (.int 1)) .nil))) .nil)) (.cons (.tup (.cons (.tup (.cons (.k (.int 1)) (.cons (.k (.str [49])) .nil))) .nil)) (.cons (.tup (.cons (.tup (.cons (.k (.int 1)) .nil)) .nil)) (.cons (.tup (.cons (.tup (.cons (.k (.int 1)) (.cons (.k (.int 1)) (.cons (.k (.int 1)) .nil)))) .nil)) (.cons (.tup (.cons (.lst (.cons (.k (.int 1)) (.cons (.k (.int 1)) .nil))) .nil)) (.cons (.lst (.cons (.v 18) .nil)) (.cons (.bin .mul (.tup (.cons (.v 18) .nil)) (.k (.int 9))) (.cons (.k .non) (.cons (.v 18) (.cons (.tup (.cons (.v 18) (.cons (.k .non) .nil))) .nil))))))))))))))))) (.c (.ret (.and (.isl false (.bl true) (.call 0 (.cons (.bin .mul (.tup (.cons (.v 18) .nil)) (.k (.int 8))) .nil))) (.and (.isl false (.bl true) (.call 0 (.cons (.tup (.cons (.tup (.cons (.k (.int 1000)) (.cons (.k (.int 1)) .nil))) .nil)) .nil))) (.bi .all (.cons (.lc [20] (.n 20) (.ex (.v 19)) .no (.isl false (.bl false) (.call 0 (.cons (.v 20) .nil)))) .nil))))) .e)))))) [r0, some (.own b.d), some (.imm (.tup (ts.map pr))), r3, r4, r5, r6, r7, r8, r9, r10, r11, r12, r13, r14, some (.imm (.int (comL (manyL ts)))), r16, r17, r18, r19, r20] = .ok (.rt false (.bl true) ρ') := by
  have l := fun r0 r1 r2 r3 r4 r5 r6 r7 r8 r9 r10 r11 r12 r13 r14 r15 r16 r17 r18 r19 r20 => @law_l4 r0 r1 r2 r3 r4 r5 r6 r7 r8 r9 r10 r11 r12 r13 r14 r15 r16 r17 r18 r19 r20 ts (by omega)
  have n1 := nx_ok b 50 (by decide)
  have b1 := b.v_nn 50 (by decide)
  obtain ⟨n, ns, hm, hge⟩ : ∃ n ns, allInt ((ts.map (·.1)).map .int) = some (n :: ns) ∧ ∀ p ∈ ts, p.1 ≤ maxI n ns := by
    cases ts with
    | nil => simp at h0
    | cons t r =>
      refine ⟨t.1, r.map (·.1), allInt_map (((t :: r).map (·.1))), ?_⟩
      intro p hp
      obtain ⟨g1, g2⟩ := maxI_ge (r.map (·.1)) t.1
      rcases List.mem_cons.mp hp with rfl | hp
      · exact g1
      · exact g2 _ (List.mem_map.mpr ⟨p, hp, rfl⟩)
  obtain ⟨mx, hmx⟩ : ∃ mx, mx = maxI n ns := ⟨_, rfl⟩
  rw [← hmx] at hge
  have r1 := rows_ok ts (mx + b.v 50) (by omega) ht
  have r2 := rows_ok ts (mx + b.v 50 + (comL (manyL ts) : Nat)) (by omega) ht
  rw [late_eq ts ht (mx + b.v 50) (fun p hp => by have := hge p hp; omega)] at r2
  rw [denBl_c]
  simp -implicitDefEqProofs only [l, hm, ← hmx, n1, den.eq_1, den.eq_2, den.eq_3, den.eq_4, den.eq_5, den.eq_6, den.eq_7, den.eq_8, den.eq_9, den.eq_10, den.eq_11, den.eq_12, den.eq_13, den.eq_14, den.eq_15, den.eq_16, den.eq_17, den.eq_18, den.eq_19, den.eq_20, den.eq_21, den.eq_22, den.eq_23, den.eq_24, den.eq_25, den.eq_26, den.eq_27, den.eq_33, den.eq_34, denB, denF, denR, denL, denD, denI, denT, denO, denS.eq_1, denS.eq_2, denS.eq_3, denS.eq_4, denS.eq_5, denS.eq_6, denS.eq_7, denS.eq_8, denS.eq_11, denS.eq_12, denS.eq_13, denS.eq_14, denS.eq_15, denS.eq_16, denS.eq_17, denBl_e, goB_nx, goB_rt, goB_ct, goB_bk, goF, ↓R.bind_bnd, R.bnd_ok, R.bnd_exc, R.bnd_bad, R.of_some, R.calm_ok, hvI, hvT, hvS, rd, rdH, fz, fzH, res, resAll, setV, setVs, bindT.eq_1, bindT.eq_2, bindTs.eq_1, bindTs.eq_2, wipe, Lit.d, List.getElem?_cons_zero, List.getElem?_cons_succ, List.set_cons_zero, List.set_cons_succ, binop, augop, cmpop, truth, indexD, biop, if_true, if_false, Bool.false_eq_true, Bool.true_and, Bool.and_true, Bool.false_and, Bool.and_false, List.length_cons, List.length_nil, Option.bind_some, Option.map_some, decide_true, decide_false, decide_eq_true_eq, Bool.not_true, Bool.not_false, Bool.or_false, Bool.false_or, Bool.or_true, Bool.true_or, reduceIte, beq_iff_eq, look, isKey_ss, isKey_ii, dkeys_s, dkeys_i, dkey0_s, dkey0_i, List.all_cons, List.all_nil, List.any_cons, List.any_nil, putD, hasKey_c, hasKey_n, putVs, List.cons_beq_cons, BEq.rfl, beq_self_eq_true, goR, endE, List.map_cons, List.map_nil, Nat.reduceBEq, Nat.reduceLeDiff, Nat.reduceEqDiff, Nat.reduceAdd, Nat.reduceMul, Nat.reduceLT, Nat.reduceSub, Int.reduceLT, Int.reduceLE, Int.reduceNeg, Int.reduceMul, Int.reduceAdd, Int.reduceSub, Int.reduceEq, Int.reduceBEq, Int.reduceNe, reduceCtorEq, Int.reduceToNat, Int.natAbs_natCast, Bool.or_self, Bool.and_self, line_lit, bne_self_eq_false, Bool.bne_true, Bool.bne_false, Int.reducePow, sm64_eq, smB_eq, isTy, isiOk, isLit, denS_for0, denS_whl, den_lc, mask, fzAll, toldEx, rep_1, rep_2, rep_3, eqOk_NONE, eqv_NONE, dep_int, dep_bl, dep_str, dep_non, eqv_int, eqv_bl, eqv_str2, eqOk_int, eqOk_str, natAbs_lit, List.contains_nil, den_gen, genS_nil, genS_cons, testR, isDic, itemsOf, List.all_cons, List.any_cons, id_eq, cast_lit, List.contains_cons, goes_nx, gives_ok, goes_ct, and_self, decide_not, not_false_eq_true, ne_eq]
  rw [denBl_c]
  simp -implicitDefEqProofs only [r1, r2, eqOk_row, eqv_row, den.eq_1, den.eq_2, den.eq_3, den.eq_4, den.eq_5, den.eq_6, den.eq_7, den.eq_8, den.eq_9, den.eq_10, den.eq_11, den.eq_12, den.eq_13, den.eq_14, den.eq_15, den.eq_16, den.eq_17, den.eq_18, den.eq_19, den.eq_20, den.eq_21, den.eq_22, den.eq_23, den.eq_24, den.eq_25, den.eq_26, den.eq_27, den.eq_33, den.eq_34, denB, denF, denR, denL, denD, denI, denT, denO, denS.eq_1, denS.eq_2, denS.eq_3, denS.eq_4, denS.eq_5, denS.eq_6, denS.eq_7, denS.eq_8, denS.eq_11, denS.eq_12, denS.eq_13, denS.eq_14, denS.eq_15, denS.eq_16, denS.eq_17, denBl_e, goB_nx, goB_rt, goB_ct, goB_bk, goF, ↓R.bind_bnd, R.bnd_ok, R.bnd_exc, R.bnd_bad, R.of_some, R.calm_ok, hvI, hvT, hvS, rd, rdH, fz, fzH, res, resAll, setV, setVs, bindT.eq_1, bindT.eq_2, bindTs.eq_1, bindTs.eq_2, wipe, Lit.d, List.getElem?_cons_zero, List.getElem?_cons_succ, List.set_cons_zero, List.set_cons_succ, binop, augop, cmpop, truth, indexD, biop, if_true, if_false, Bool.false_eq_true, Bool.true_and, Bool.and_true, Bool.false_and, Bool.and_false, List.length_cons, List.length_nil, Option.bind_some, Option.map_some, decide_true, decide_false, decide_eq_true_eq, Bool.not_true, Bool.not_false, Bool.or_false, Bool.false_or, Bool.or_true, Bool.true_or, reduceIte, beq_iff_eq, look, isKey_ss, isKey_ii, dkeys_s, dkeys_i, dkey0_s, dkey0_i, List.all_cons, List.all_nil, List.any_cons, List.any_nil, putD, hasKey_c, hasKey_n, putVs, List.cons_beq_cons, BEq.rfl, beq_self_eq_true, goR, endE, List.map_cons, List.map_nil, Nat.reduceBEq, Nat.reduceLeDiff, Nat.reduceEqDiff, Nat.reduceAdd, Nat.reduceMul, Nat.reduceLT, Nat.reduceSub, Int.reduceLT, Int.reduceLE, Int.reduceNeg, Int.reduceMul, Int.reduceAdd, Int.reduceSub, Int.reduceEq, Int.reduceBEq, Int.reduceNe, reduceCtorEq, Int.reduceToNat, Int.natAbs_natCast, Bool.or_self, Bool.and_self, line_lit, bne_self_eq_false, Bool.bne_true, Bool.bne_false, Int.reducePow, sm64_eq, smB_eq, isTy, isiOk, isLit, denS_for0, denS_whl, den_lc, mask, fzAll, toldEx, rep_1, rep_2, rep_3, eqOk_NONE, eqv_NONE, dep_int, dep_bl, dep_str, dep_non, eqv_int, eqv_bl, eqv_str2, eqOk_int, eqOk_str, natAbs_lit, List.contains_nil, den_gen, genS_nil, genS_cons, testR, isDic, itemsOf, List.all_cons, List.any_cons, id_eq, cast_lit, List.contains_cons, goes_nx, gives_ok, goes_ct, and_self, decide_not, not_false_eq_true, ne_eq]
  exact law_13 ..

/-! ### the common multiple -/
theorem law_l3 {r0 r1 r2 r3 r4 r5 r6 r7 r8 r9 r10 r11 r12 r13 r14 r15 r16 r17 r18 r19 r20 : Option PV} (ts : List Tr) (hl : ts.length ≤ 1000) (ht : ∀ p ∈ ts, okS p) :
    lcS GD F [10] (.n 10) .no (.ix (.v 10) (.k (.int 1))) (ts.map pr) [r0, r1, r2, r3, r4, r5, r6, r7, r8, r9, r10, r11, r12, r13, r14, r15, r16, r17, r18, r19, r20] = .ok (.tmp (.lst ((manyL ts).map fun n : Nat => .int n)), [r0, r1, r2, r3, r4, r5, r6, r7, r8, r9, r10, r11, r12, r13, r14, r15, r16, r17, r18, r19, r20]) := by
  rw [lcS_fmG GD F _ _ _ _ _ _ (fun d => match d with
      | .tup [.int a, .int b] => some (.int b)
      | _ => none) (by rw [List.length_map, line_lit]; omega) ?_]
  · have e2 : (ts.map pr).filterMap (fun d => match d with
      | .tup [.int a, .int b] => some (D.int b)
      | _ => none) = (manyL ts).map fun n : Nat => D.int n := by
      rw [List.filterMap_map, manyL, List.map_map]
      have : ((fun n : Nat => D.int n) ∘ fun p : Tr => p.2.toNat) = fun p : Tr => D.int (p.2.toNat : Nat) := rfl
      rw [this]
      have h3 : ∀ p ∈ ts, ((fun d => match d with
        | .tup [.int a, .int b] => some (D.int b)
        | _ => none) ∘ pr) p = some (D.int (p.2.toNat : Nat)) := by
        intro p hp
        obtain ⟨_, _, q3, _⟩ := ht p hp
        show some (D.int p.2) = _
        congr 2; omega
      rw [filterMap_congr' _ _ ts h3]
      exact (List.filterMap_eq_map (f := fun p : Tr => D.int (p.2.toNat : Nat)) ▸ rfl)
    rw [e2]
  · intro d hd
    obtain ⟨p, hp, rfl⟩ := List.mem_map.mp hd
    have a0 := atI_nn [D.int p.1, D.int p.2] 1 (by decide) (by simp)
    change _ = some (D.int p.2) at a0
    simp -implicitDefEqProofs only [lcT, pr, a0, den.eq_1, den.eq_2, den.eq_3, den.eq_4, den.eq_5, den.eq_6, den.eq_7, den.eq_8, den.eq_9, den.eq_10, den.eq_11, den.eq_12, den.eq_13, den.eq_14, den.eq_15, den.eq_16, den.eq_17, den.eq_18, den.eq_19, den.eq_20, den.eq_21, den.eq_22, den.eq_23, den.eq_24, den.eq_25, den.eq_26, den.eq_27, den.eq_33, den.eq_34, denB, denF, denR, denL, denD, denI, denT, denO, denS.eq_1, denS.eq_2, denS.eq_3, denS.eq_4, denS.eq_5, denS.eq_6, denS.eq_7, denS.eq_8, denS.eq_11, denS.eq_12, denS.eq_13, denS.eq_14, denS.eq_15, denS.eq_16, denS.eq_17, denBl_c, denBl_e, goB_nx, goB_rt, goB_ct, goB_bk, goF, ↓R.bind_bnd, R.bnd_ok, R.bnd_exc, R.bnd_bad, R.of_some, R.calm_ok, hvI, hvT, hvS, rd, rdH, fz, fzH, res, resAll, setV, setVs, bindT.eq_1, bindT.eq_2, bindTs.eq_1, bindTs.eq_2, wipe, Lit.d, List.getElem?_cons_zero, List.getElem?_cons_succ, List.set_cons_zero, List.set_cons_succ, binop, augop, cmpop, truth, indexD, biop, if_true, if_false, Bool.false_eq_true, Bool.true_and, Bool.and_true, Bool.false_and, Bool.and_false, List.length_cons, List.length_nil, Option.bind_some, Option.map_some, decide_true, decide_false, decide_eq_true_eq, Bool.not_true, Bool.not_false, Bool.or_false, Bool.false_or, Bool.or_true, Bool.true_or, reduceIte, beq_iff_eq, look, isKey_ss, isKey_ii, dkeys_s, dkeys_i, dkey0_s, dkey0_i, List.all_cons, List.all_nil, List.any_cons, List.any_nil, putD, hasKey_c, hasKey_n, putVs, List.cons_beq_cons, BEq.rfl, beq_self_eq_true, goR, endE, List.map_cons, List.map_nil, Nat.reduceBEq, Nat.reduceLeDiff, Nat.reduceEqDiff, Nat.reduceAdd, Nat.reduceMul, Nat.reduceLT, Nat.reduceSub, Int.reduceLT, Int.reduceLE, Int.reduceNeg, Int.reduceMul, Int.reduceAdd, Int.reduceSub, Int.reduceEq, Int.reduceBEq, Int.reduceNe, reduceCtorEq, Int.reduceToNat, Int.natAbs_natCast, Bool.or_self, Bool.and_self, line_lit, bne_self_eq_false, Bool.bne_true, Bool.bne_false, Int.reducePow, sm64_eq, smB_eq, isTy, isiOk, isLit, denS_for0, denS_whl, den_lc, mask, fzAll, toldEx, rep_1, rep_2, rep_3, eqOk_NONE, eqv_NONE, dep_int, dep_bl, dep_str, dep_non, eqv_int, eqv_bl, eqv_str2, eqOk_int, eqOk_str, natAbs_lit, List.contains_nil, den_gen, genS_nil, genS_cons, testR, isDic, itemsOf, List.all_cons, List.any_cons, id_eq, cast_lit, List.contains_cons, goes_nx, gives_ok, goes_ct, and_self, decide_not, not_false_eq_true, ne_eq]
def lcP (x : Nat) : D → Nat
  | .tup [.int _, .int b] => Nat.lcm x b.toNat
  | _ => x
theorem fold_lcP (ts : List Tr) (x : Nat) : (ts.map pr).foldl lcP x = (manyL ts).foldl Nat.lcm x := by
  induction ts generalizing x with
  | nil => rfl
  | cons p ts ih => rw [List.map_cons, List.foldl_cons, ih]; rfl
def I5 (ts : List Tr) (b : Bx) (x : Nat) (ρ : Env) : Prop := ∃ r0 r3 r4 r5 r6 r7 r8 r9 r10 r11 r12 r13 r14 r16 r17 r18 r19 r20 : Option PV, ρ = [r0, some (.own b.d), some (.imm (.tup (ts.map pr))), r3, r4, r5, r6, r7, r8, r9, r10, r11, r12, r13, r14, some (.imm (.int x)), r16, r17, r18, r19, r20]
theorem law_T5 (ts : List Tr) (b : Bx) (x n : Nat) (a : Int) (h1 : 1 ≤ n) (h2 : n ≤ 30) (ρ : Env) (h : I5 ts b x ρ) : Goes ((forT GD F false (.t [(.n 5), (.n 6)]) (.c (.set 15 (.bin .fdiv (.bin .mul (.v 15) (.v 6)) (.call 11 (.cons (.v 15) (.cons (.v 6) .nil))))) .e)) (.tup [.int a, .int n]) ρ) (I5 ts b (Nat.lcm x n)) := by
  obtain ⟨r0, r3, r4, r5, r6, r7, r8, r9, r10, r11, r12, r13, r14, r16, r17, r18, r19, r20, rfl⟩ := h
  have hg : 0 < Nat.gcd x n := Nat.gcd_pos_of_pos_right _ (by omega)
  have hg2 : Nat.gcd x n ≤ n := Nat.gcd_le_right _ (by omega)
  have b1 : ¬ ((Nat.gcd x n : Nat) : Int) = 0 := by omega
  have b2 : Nat.gcd x n < 1073741824 := by omega
  have b3 : (-18446744073709551616 : Int) < (n : Int) := by omega
  have b4 : (n : Int) < (18446744073709551616 : Int) := by omega
  have dv := div_ok x n (by omega)
  simp -implicitDefEqProofs only [forT, dv, b1, b2, b3, b4, lcm_div x n h1, den.eq_1, den.eq_2, den.eq_3, den.eq_4, den.eq_5, den.eq_6, den.eq_7, den.eq_8, den.eq_9, den.eq_10, den.eq_11, den.eq_12, den.eq_13, den.eq_14, den.eq_15, den.eq_16, den.eq_17, den.eq_18, den.eq_19, den.eq_20, den.eq_21, den.eq_22, den.eq_23, den.eq_24, den.eq_25, den.eq_26, den.eq_27, den.eq_33, den.eq_34, denB, denF, denR, denL, denD, denI, denT, denO, denS.eq_1, denS.eq_2, denS.eq_3, denS.eq_4, denS.eq_5, denS.eq_6, denS.eq_7, denS.eq_8, denS.eq_11, denS.eq_12, denS.eq_13, denS.eq_14, denS.eq_15, denS.eq_16, denS.eq_17, denBl_c, denBl_e, goB_nx, goB_rt, goB_ct, goB_bk, goF, ↓R.bind_bnd, R.bnd_ok, R.bnd_exc, R.bnd_bad, R.of_some, R.calm_ok, hvI, hvT, hvS, rd, rdH, fz, fzH, res, resAll, setV, setVs, bindT.eq_1, bindT.eq_2, bindTs.eq_1, bindTs.eq_2, wipe, Lit.d, List.getElem?_cons_zero, List.getElem?_cons_succ, List.set_cons_zero, List.set_cons_succ, binop, augop, cmpop, truth, indexD, biop, if_true, if_false, Bool.false_eq_true, Bool.true_and, Bool.and_true, Bool.false_and, Bool.and_false, List.length_cons, List.length_nil, Option.bind_some, Option.map_some, decide_true, decide_false, decide_eq_true_eq, Bool.not_true, Bool.not_false, Bool.or_false, Bool.false_or, Bool.or_true, Bool.true_or, reduceIte, beq_iff_eq, look, isKey_ss, isKey_ii, dkeys_s, dkeys_i, dkey0_s, dkey0_i, List.all_cons, List.all_nil, List.any_cons, List.any_nil, putD, hasKey_c, hasKey_n, putVs, List.cons_beq_cons, BEq.rfl, beq_self_eq_true, goR, endE, List.map_cons, List.map_nil, Nat.reduceBEq, Nat.reduceLeDiff, Nat.reduceEqDiff, Nat.reduceAdd, Nat.reduceMul, Nat.reduceLT, Nat.reduceSub, Int.reduceLT, Int.reduceLE, Int.reduceNeg, Int.reduceMul, Int.reduceAdd, Int.reduceSub, Int.reduceEq, Int.reduceBEq, Int.reduceNe, reduceCtorEq, Int.reduceToNat, Int.natAbs_natCast, Bool.or_self, Bool.and_self, line_lit, bne_self_eq_false, Bool.bne_true, Bool.bne_false, Int.reducePow, sm64_eq, smB_eq, isTy, isiOk, isLit, denS_for0, denS_whl, den_lc, mask, fzAll, toldEx, rep_1, rep_2, rep_3, eqOk_NONE, eqv_NONE, dep_int, dep_bl, dep_str, dep_non, eqv_int, eqv_bl, eqv_str2, eqOk_int, eqOk_str, natAbs_lit, List.contains_nil, den_gen, genS_nil, genS_cons, testR, isDic, itemsOf, List.all_cons, List.any_cons, id_eq, cast_lit, List.contains_cons, goes_nx, gives_ok, goes_ct, and_self, decide_not, not_false_eq_true, ne_eq]
  exact ⟨_, _, _, _, _, _, _, _, _, _, _, _, _, _, _, _, _, _, rfl⟩
theorem law_9 (ts : List Tr) (b : Bx) (h0 : 1 ≤ ts.length) (hl : ts.length ≤ 8) (ht : ∀ p ∈ ts, okS p) (r0 r3 r4 r5 r6 r7 r8 r9 r10 r11 r12 r13 r14 r16 r17 r18 r19 r20 : Option PV) :
    ∃ ρ', (denBl GD F false (.c (.set 16 (.lc [10] (.n 10) (.ex (.v 2)) .no (.ix (.v 10) (.k (.int 1))))) (.c (.iff (.or (.nt (.tr (.call 9 (.cons (.call 4 (.cons (.bi .list (.cons (.v 16) .nil)) .nil)) (.cons (.v 15) .nil))))) (.or (.nt (.tr (.call 9 (.cons (.call 5 (.cons (.v 2) .nil)) (.cons (.v 15) .nil))))) (.nt (.tr (.call 9 (.cons (.call 4 (.cons (.lst .nil) .nil)) (.cons (.k (.int 1)) .nil))))))) (.c (.ret (.k (.bl false))) .e) .e) (.c (.set 17 (.bin .add (.bi .max (.cons (.lc [10] (.n 10) (.ex (.v 2)) .no (.ix (.v 10) (.k (.int 0)))) .nil)) (.cio 8 1 (.cons (.k (.int 50)) .nil)))) (.c (.iff (.cmp .ne (.call 2 (.cons (.v 2) (.cons (.v 17) .nil))) (.call 2 (.cons (.v 2) (.cons (.bin .add (.v 17) (.v 15)) .nil)))) (.c (.ret (.k (.bl false))) .e) .e) (.c (.set 18 (.tup (.cons (.k (.int 1)) (.cons (.k (.int 1000)) .nil)))) (.c (.set 19 (.lst (.cons (.tup .nil) (.cons (.tup (.cons (.tup (.cons (.k (.int 0)) (.cons (.k (.int 1)) .nil))) .nil)) (.cons (.tup (.cons (.tup (.cons (.k (.int 1)) (.cons (.k (.int 0)) .nil))) .nil)) (.cons (.tup (.cons (.tup (.cons (.k (.int 1001)) (.cons (.k (.int 1)) .nil))) .nil)) (.cons (.tup (.cons (.tup (.cons (.k (.int 1)) (.cons (.k (.int 1001)) .nil))) .nil)) (.cons (.tup (.cons (.tup (.cons (.k (.bl true)) (.cons (.k (.int 1)) .nil))) .nil)) (.cons (.tup (.cons (.tup (.cons (.k (.int 1)) (.cons (.k (.str [49])) .nil))) .nil)) (.cons (.tup (.cons (.tup (.cons (.k (.int 1)) .nil)) .nil)) (.cons (.tup (.cons (.tup (.cons (.k (.int 1)) (.cons (.k (.int 1)) (.cons (.k (.int 1)) .nil)))) .nil)) (.cons (.tup (.cons (.lst (.cons (.k (.int 1)) (.cons (.k (.int 1)) .nil))) .nil)) (.cons (.lst (.cons (.v 18) .nil)) (.cons (.bin .mul (.tup (.cons (.v 18) .nil)) (.k (.int 9))) (.cons (.k .non) (.cons (.v 18) (.cons (.tup (.cons (.v 18) (.cons (.k .non) .nil))) .nil))))))))))))))))) (.c (.ret (.and (.isl false (.bl true) (.call 0 (.cons (.bin .mul (.tup (.cons (.v 18) .nil)) (.k (.int 8))) .nil))) (.and (.isl false (.bl true) (.call 0 (.cons (.tup (.cons (.tup (.cons (.k (.int 1000)) (.cons (.k (.int 1)) .nil))) .nil)) .nil))) (.bi .all (.cons (.lc [20] (.n 20) (.ex (.v 19)) .no (.isl false (.bl false) (.call 0 (.cons (.v 20) .nil)))) .nil))))) .e)))))))) [r0, some (.own b.d), some (.imm (.tup (ts.map pr))), r3, r4, r5, r6, r7, r8, r9, r10, r11, r12, r13, r14, some (.imm (.int (comL (manyL ts)))), r16, r17, r18, r19, r20] = .ok (.rt false (.bl true) ρ') := by
  have l := fun r0 r1 r2 r3 r4 r5 r6 r7 r8 r9 r10 r11 r12 r13 r14 r15 r16 r17 r18 r19 r20 => @law_l3 r0 r1 r2 r3 r4 r5 r6 r7 r8 r9 r10 r11 r12 r13 r14 r15 r16 r17 r18 r19 r20 ts (by omega) ht
  have c1 := common_ok (manyL ts) (many_ok ts ht)
  have c2 := comes_ok ts (by omega) ht
  have c3 : F 4 [.lst []] = .ok ((false, .int 1), .non) := common_ok [] (by simp)
  rw [denBl_c]
  simp -implicitDefEqProofs only [l, den.eq_1, den.eq_2, den.eq_3, den.eq_4, den.eq_5, den.eq_6, den.eq_7, den.eq_8, den.eq_9, den.eq_10, den.eq_11, den.eq_12, den.eq_13, den.eq_14, den.eq_15, den.eq_16, den.eq_17, den.eq_18, den.eq_19, den.eq_20, den.eq_21, den.eq_22, den.eq_23, den.eq_24, den.eq_25, den.eq_26, den.eq_27, den.eq_33, den.eq_34, denB, denF, denR, denL, denD, denI, denT, denO, denS.eq_1, denS.eq_2, denS.eq_3, denS.eq_4, denS.eq_5, denS.eq_6, denS.eq_7, denS.eq_8, denS.eq_11, denS.eq_12, denS.eq_13, denS.eq_14, denS.eq_15, denS.eq_16, denS.eq_17, denBl_e, goB_nx, goB_rt, goB_ct, goB_bk, goF, ↓R.bind_bnd, R.bnd_ok, R.bnd_exc, R.bnd_bad, R.of_some, R.calm_ok, hvI, hvT, hvS, rd, rdH, fz, fzH, res, resAll, setV, setVs, bindT.eq_1, bindT.eq_2, bindTs.eq_1, bindTs.eq_2, wipe, Lit.d, List.getElem?_cons_zero, List.getElem?_cons_succ, List.set_cons_zero, List.set_cons_succ, binop, augop, cmpop, truth, indexD, biop, if_true, if_false, Bool.false_eq_true, Bool.true_and, Bool.and_true, Bool.false_and, Bool.and_false, List.length_cons, List.length_nil, Option.bind_some, Option.map_some, decide_true, decide_false, decide_eq_true_eq, Bool.not_true, Bool.not_false, Bool.or_false, Bool.false_or, Bool.or_true, Bool.true_or, reduceIte, beq_iff_eq, look, isKey_ss, isKey_ii, dkeys_s, dkeys_i, dkey0_s, dkey0_i, List.all_cons, List.all_nil, List.any_cons, List.any_nil, putD, hasKey_c, hasKey_n, putVs, List.cons_beq_cons, BEq.rfl, beq_self_eq_true, goR, endE, List.map_cons, List.map_nil, Nat.reduceBEq, Nat.reduceLeDiff, Nat.reduceEqDiff, Nat.reduceAdd, Nat.reduceMul, Nat.reduceLT, Nat.reduceSub, Int.reduceLT, Int.reduceLE, Int.reduceNeg, Int.reduceMul, Int.reduceAdd, Int.reduceSub, Int.reduceEq, Int.reduceBEq, Int.reduceNe, reduceCtorEq, Int.reduceToNat, Int.natAbs_natCast, Bool.or_self, Bool.and_self, line_lit, bne_self_eq_false, Bool.bne_true, Bool.bne_false, Int.reducePow, sm64_eq, smB_eq, isTy, isiOk, isLit, denS_for0, denS_whl, den_lc, mask, fzAll, toldEx, rep_1, rep_2, rep_3, eqOk_NONE, eqv_NONE, dep_int, dep_bl, dep_str, dep_non, eqv_int, eqv_bl, eqv_str2, eqOk_int, eqOk_str, natAbs_lit, List.contains_nil, den_gen, genS_nil, genS_cons, testR, isDic, itemsOf, List.all_cons, List.any_cons, id_eq, cast_lit, List.contains_cons, goes_nx, gives_ok, goes_ct, and_self, decide_not, not_false_eq_true, ne_eq]
  rw [denBl_c]
  simp -implicitDefEqProofs only [c1, c2, c3, is_int, den.eq_1, den.eq_2, den.eq_3, den.eq_4, den.eq_5, den.eq_6, den.eq_7, den.eq_8, den.eq_9, den.eq_10, den.eq_11, den.eq_12, den.eq_13, den.eq_14, den.eq_15, den.eq_16, den.eq_17, den.eq_18, den.eq_19, den.eq_20, den.eq_21, den.eq_22, den.eq_23, den.eq_24, den.eq_25, den.eq_26, den.eq_27, den.eq_33, den.eq_34, denB, denF, denR, denL, denD, denI, denT, denO, denS.eq_1, denS.eq_2, denS.eq_3, denS.eq_4, denS.eq_5, denS.eq_6, denS.eq_7, denS.eq_8, denS.eq_11, denS.eq_12, denS.eq_13, denS.eq_14, denS.eq_15, denS.eq_16, denS.eq_17, denBl_e, goB_nx, goB_rt, goB_ct, goB_bk, goF, ↓R.bind_bnd, R.bnd_ok, R.bnd_exc, R.bnd_bad, R.of_some, R.calm_ok, hvI, hvT, hvS, rd, rdH, fz, fzH, res, resAll, setV, setVs, bindT.eq_1, bindT.eq_2, bindTs.eq_1, bindTs.eq_2, wipe, Lit.d, List.getElem?_cons_zero, List.getElem?_cons_succ, List.set_cons_zero, List.set_cons_succ, binop, augop, cmpop, truth, indexD, biop, if_true, if_false, Bool.false_eq_true, Bool.true_and, Bool.and_true, Bool.false_and, Bool.and_false, List.length_cons, List.length_nil, Option.bind_some, Option.map_some, decide_true, decide_false, decide_eq_true_eq, Bool.not_true, Bool.not_false, Bool.or_false, Bool.false_or, Bool.or_true, Bool.true_or, reduceIte, beq_iff_eq, look, isKey_ss, isKey_ii, dkeys_s, dkeys_i, dkey0_s, dkey0_i, List.all_cons, List.all_nil, List.any_cons, List.any_nil, putD, hasKey_c, hasKey_n, putVs, List.cons_beq_cons, BEq.rfl, beq_self_eq_true, goR, endE, List.map_cons, List.map_nil, Nat.reduceBEq, Nat.reduceLeDiff, Nat.reduceEqDiff, Nat.reduceAdd, Nat.reduceMul, Nat.reduceLT, Nat.reduceSub, Int.reduceLT, Int.reduceLE, Int.reduceNeg, Int.reduceMul, Int.reduceAdd, Int.reduceSub, Int.reduceEq, Int.reduceBEq, Int.reduceNe, reduceCtorEq, Int.reduceToNat, Int.natAbs_natCast, Bool.or_self, Bool.and_self, line_lit, bne_self_eq_false, Bool.bne_true, Bool.bne_false, Int.reducePow, sm64_eq, smB_eq, isTy, isiOk, isLit, denS_for0, denS_whl, den_lc, mask, fzAll, toldEx, rep_1, rep_2, rep_3, eqOk_NONE, eqv_NONE, dep_int, dep_bl, dep_str, dep_non, eqv_int, eqv_bl, eqv_str2, eqOk_int, eqOk_str, natAbs_lit, List.contains_nil, den_gen, genS_nil, genS_cons, testR, isDic, itemsOf, List.all_cons, List.any_cons, id_eq, cast_lit, List.contains_cons, goes_nx, gives_ok, goes_ct, and_self, decide_not, not_false_eq_true, ne_eq]
  exact law_11 ts b h0 hl ht ..
theorem law_7 (ts : List Tr) (b : Bx) (h0 : 1 ≤ ts.length) (hl : ts.length ≤ 8) (ht : ∀ p ∈ ts, okS p) (r0 r3 r4 r5 r6 r7 r8 r9 r10 r11 r12 r13 r14 r15 r16 r17 r18 r19 r20 : Option PV) :
    ∃ ρ', (denBl GD F false (.c (.set 15 (.k (.int 1))) (.c (.for_ (.t [(.n 5), (.n 6)]) (.ex (.v 2)) (.c (.set 15 (.bin .fdiv (.bin .mul (.v 15) (.v 6)) (.call 11 (.cons (.v 15) (.cons (.v 6) .nil))))) .e)) (.c (.set 16 (.lc [10] (.n 10) (.ex (.v 2)) .no (.ix (.v 10) (.k (.int 1))))) (.c (.iff (.or (.nt (.tr (.call 9 (.cons (.call 4 (.cons (.bi .list (.cons (.v 16) .nil)) .nil)) (.cons (.v 15) .nil))))) (.or (.nt (.tr (.call 9 (.cons (.call 5 (.cons (.v 2) .nil)) (.cons (.v 15) .nil))))) (.nt (.tr (.call 9 (.cons (.call 4 (.cons (.lst .nil) .nil)) (.cons (.k (.int 1)) .nil))))))) (.c (.ret (.k (.bl false))) .e) .e) (.c (.set 17 (.bin .add (.bi .max (.cons (.lc [10] (.n 10) (.ex (.v 2)) .no (.ix (.v 10) (.k (.int 0)))) .nil)) (.cio 8 1 (.cons (.k (.int 50)) .nil)))) (.c (.iff (.cmp .ne (.call 2 (.cons (.v 2) (.cons (.v 17) .nil))) (.call 2 (.cons (.v 2) (.cons (.bin .add (.v 17) (.v 15)) .nil)))) (.c (.ret (.k (.bl false))) .e) .e) (.c (.set 18 (.tup (.cons (.k (.int 1)) (.cons (.k (.int 1000)) .nil)))) (.c (.set 19 (.lst (.cons (.tup .nil) (.cons (.tup (.cons (.tup (.cons (.k (.int 0)) (.cons (.k (.int 1)) .nil))) .nil)) (.cons (.tup (.cons (.tup (.cons (.k (.int 1)) (.cons (.k (.int 0)) .nil))) .nil)) (.cons (.tup (.cons (.tup (.cons (.k (.int 1001)) (.cons (.k (.int 1)) .nil))) .nil)) (.cons (.tup (.cons (.tup (.cons (.k (.int 1)) (.cons (.k (.int 1001)) .nil))) .nil)) (.cons (.tup (.cons (.tup (.cons (.k (.bl true)) (.cons (.k (.int 1)) .nil))) .nil)) (.cons (.tup (.cons (.tup (.cons (.k (.int 1)) (.cons (.k (.str [49])) .nil))) .nil)) (.cons (.tup (.cons (.tup (.cons (.k (.int 1)) .nil)) .nil)) (.cons (.tup (.cons (.tup (.cons (.k (.int 1)) (.cons (.k (.int 1)) (.cons (.k (.int 1)) .nil)))) .nil)) (.cons (.tup (.cons (.lst (.cons (.k (.int 1)) (.cons (.k (.int 1)) .nil))) .nil)) (.cons (.lst (.cons (.v 18) .nil)) (.cons (.bin .mul (.tup (.cons (.v 18) .nil)) (.k (.int 9))) (.cons (.k .non) (.cons (.v 18) (.cons (.tup (.cons (.v 18) (.cons (.k .non) .nil))) .nil))))))))))))))))) (.c (.ret (.and (.isl false (.bl true) (.call 0 (.cons (.bin .mul (.tup (.cons (.v 18) .nil)) (.k (.int 8))) .nil))) (.and (.isl false (.bl true) (.call 0 (.cons (.tup (.cons (.tup (.cons (.k (.int 1000)) (.cons (.k (.int 1)) .nil))) .nil)) .nil))) (.bi .all (.cons (.lc [20] (.n 20) (.ex (.v 19)) .no (.isl false (.bl false) (.call 0 (.cons (.v 20) .nil)))) .nil))))) .e)))))))))) [r0, some (.own b.d), some (.imm (.tup (ts.map pr))), r3, r4, r5, r6, r7, r8, r9, r10, r11, r12, r13, r14, r15, r16, r17, r18, r19, r20] = .ok (.rt false (.bl true) ρ') := by
  rw [denBl_c]
  simp -implicitDefEqProofs only [den.eq_1, den.eq_2, den.eq_3, den.eq_4, den.eq_5, den.eq_6, den.eq_7, den.eq_8, den.eq_9, den.eq_10, den.eq_11, den.eq_12, den.eq_13, den.eq_14, den.eq_15, den.eq_16, den.eq_17, den.eq_18, den.eq_19, den.eq_20, den.eq_21, den.eq_22, den.eq_23, den.eq_24, den.eq_25, den.eq_26, den.eq_27, den.eq_33, den.eq_34, denB, denF, denR, denL, denD, denI, denT, denO, denS.eq_1, denS.eq_2, denS.eq_3, denS.eq_4, denS.eq_5, denS.eq_6, denS.eq_7, denS.eq_8, denS.eq_11, denS.eq_12, denS.eq_13, denS.eq_14, denS.eq_15, denS.eq_16, denS.eq_17, denBl_e, goB_nx, goB_rt, goB_ct, goB_bk, goF, ↓R.bind_bnd, R.bnd_ok, R.bnd_exc, R.bnd_bad, R.of_some, R.calm_ok, hvI, hvT, hvS, rd, rdH, fz, fzH, res, resAll, setV, setVs, bindT.eq_1, bindT.eq_2, bindTs.eq_1, bindTs.eq_2, wipe, Lit.d, List.getElem?_cons_zero, List.getElem?_cons_succ, List.set_cons_zero, List.set_cons_succ, binop, augop, cmpop, truth, indexD, biop, if_true, if_false, Bool.false_eq_true, Bool.true_and, Bool.and_true, Bool.false_and, Bool.and_false, List.length_cons, List.length_nil, Option.bind_some, Option.map_some, decide_true, decide_false, decide_eq_true_eq, Bool.not_true, Bool.not_false, Bool.or_false, Bool.false_or, Bool.or_true, Bool.true_or, reduceIte, beq_iff_eq, look, isKey_ss, isKey_ii, dkeys_s, dkeys_i, dkey0_s, dkey0_i, List.all_cons, List.all_nil, List.any_cons, List.any_nil, putD, hasKey_c, hasKey_n, putVs, List.cons_beq_cons, BEq.rfl, beq_self_eq_true, goR, endE, List.map_cons, List.map_nil, Nat.reduceBEq, Nat.reduceLeDiff, Nat.reduceEqDiff, Nat.reduceAdd, Nat.reduceMul, Nat.reduceLT, Nat.reduceSub, Int.reduceLT, Int.reduceLE, Int.reduceNeg, Int.reduceMul, Int.reduceAdd, Int.reduceSub, Int.reduceEq, Int.reduceBEq, Int.reduceNe, reduceCtorEq, Int.reduceToNat, Int.natAbs_natCast, Bool.or_self, Bool.and_self, line_lit, bne_self_eq_false, Bool.bne_true, Bool.bne_false, Int.reducePow, sm64_eq, smB_eq, isTy, isiOk, isLit, denS_for0, denS_whl, den_lc, mask, fzAll, toldEx, rep_1, rep_2, rep_3, eqOk_NONE, eqv_NONE, dep_int, dep_bl, dep_str, dep_non, eqv_int, eqv_bl, eqv_str2, eqOk_int, eqOk_str, natAbs_lit, List.contains_nil, den_gen, genS_nil, genS_cons, testR, isDic, itemsOf, List.all_cons, List.any_cons, id_eq, cast_lit, List.contains_cons, goes_nx, gives_ok, goes_ct, and_self, decide_not, not_false_eq_true, ne_eq]
  obtain ⟨ρ', e, h2⟩ := for_foldI (I5 ts b) lcP (forT GD F false (.t [(.n 5), (.n 6)]) (.c (.set 15 (.bin .fdiv (.bin .mul (.v 15) (.v 6)) (.call 11 (.cons (.v 15) (.cons (.v 6) .nil))))) .e)) (ts.map pr) (fun x d ρ hd hI => by
    obtain ⟨p, hp, rfl⟩ := List.mem_map.mp hd
    have q3 : 1 ≤ p.2 := (ht p hp).2.2.1
    have q4 : p.2 ≤ 30 := (ht p hp).2.2.2
    have := law_T5 ts b x p.2.toNat p.1 (by omega) (by omega) ρ hI
    rw [Int.toNat_of_nonneg (by omega)] at this
    exact this) 1 [r0, some (.own b.d), some (.imm (.tup (ts.map pr))), r3, r4, r5, r6, r7, r8, r9, r10, r11, r12, r13, r14, some (.imm (.int 1)), r16, r17, r18, r19, r20] ⟨_, _, _, _, _, _, _, _, _, _, _, _, _, _, _, _, _, _, rfl⟩
  rw [fold_lcP] at h2
  obtain ⟨r0, r3, r4, r5, r6, r7, r8, r9, r10, r11, r12, r13, r14, r16, r17, r18, r19, r20, rfl⟩ := h2
  rw [denBl_c]
  simp -implicitDefEqProofs only [e, den.eq_1, den.eq_2, den.eq_3, den.eq_4, den.eq_5, den.eq_6, den.eq_7, den.eq_8, den.eq_9, den.eq_10, den.eq_11, den.eq_12, den.eq_13, den.eq_14, den.eq_15, den.eq_16, den.eq_17, den.eq_18, den.eq_19, den.eq_20, den.eq_21, den.eq_22, den.eq_23, den.eq_24, den.eq_25, den.eq_26, den.eq_27, den.eq_33, den.eq_34, denB, denF, denR, denL, denD, denI, denT, denO, denS.eq_1, denS.eq_2, denS.eq_3, denS.eq_4, denS.eq_5, denS.eq_6, denS.eq_7, denS.eq_8, denS.eq_11, denS.eq_12, denS.eq_13, denS.eq_14, denS.eq_15, denS.eq_16, denS.eq_17, denBl_e, goB_nx, goB_rt, goB_ct, goB_bk, goF, ↓R.bind_bnd, R.bnd_ok, R.bnd_exc, R.bnd_bad, R.of_some, R.calm_ok, hvI, hvT, hvS, rd, rdH, fz, fzH, res, resAll, setV, setVs, bindT.eq_1, bindT.eq_2, bindTs.eq_1, bindTs.eq_2, wipe, Lit.d, List.getElem?_cons_zero, List.getElem?_cons_succ, List.set_cons_zero, List.set_cons_succ, binop, augop, cmpop, truth, indexD, biop, if_true, if_false, Bool.false_eq_true, Bool.true_and, Bool.and_true, Bool.false_and, Bool.and_false, List.length_cons, List.length_nil, Option.bind_some, Option.map_some, decide_true, decide_false, decide_eq_true_eq, Bool.not_true, Bool.not_false, Bool.or_false, Bool.false_or, Bool.or_true, Bool.true_or, reduceIte, beq_iff_eq, look, isKey_ss, isKey_ii, dkeys_s, dkeys_i, dkey0_s, dkey0_i, List.all_cons, List.all_nil, List.any_cons, List.any_nil, putD, hasKey_c, hasKey_n, putVs, List.cons_beq_cons, BEq.rfl, beq_self_eq_true, goR, endE, List.map_cons, List.map_nil, Nat.reduceBEq, Nat.reduceLeDiff, Nat.reduceEqDiff, Nat.reduceAdd, Nat.reduceMul, Nat.reduceLT, Nat.reduceSub, Int.reduceLT, Int.reduceLE, Int.reduceNeg, Int.reduceMul, Int.reduceAdd, Int.reduceSub, Int.reduceEq, Int.reduceBEq, Int.reduceNe, reduceCtorEq, Int.reduceToNat, Int.natAbs_natCast, Bool.or_self, Bool.and_self, line_lit, bne_self_eq_false, Bool.bne_true, Bool.bne_false, Int.reducePow, sm64_eq, smB_eq, isTy, isiOk, isLit, denS_for0, denS_whl, den_lc, mask, fzAll, toldEx, rep_1, rep_2, rep_3, eqOk_NONE, eqv_NONE, dep_int, dep_bl, dep_str, dep_non, eqv_int, eqv_bl, eqv_str2, eqOk_int, eqOk_str, natAbs_lit, List.contains_nil, den_gen, genS_nil, genS_cons, testR, isDic, itemsOf, List.all_cons, List.any_cons, id_eq, cast_lit, List.contains_cons, goes_nx, gives_ok, goes_ct, and_self, decide_not, not_false_eq_true, ne_eq]
  exact law_9 ts b h0 hl ht ..
end Kn.L

end

section
namespace Kn.L
theorem irange_cons (a b : Int) (h : a < b) : irange a b = a :: irange (a + 1) b := by
  rw [irange, irange]
  have e : (b - a).toNat = (b - (a + 1)).toNat + 1 := by omega
  rw [e, List.range_succ_eq_map, List.map_cons, List.map_map]
  congr 1
  · simp
  · apply List.map_congr_left; intro k _; simp -implicitDefEqProofs only [Function.comp]; omega
theorem filter_none (n : Nat) (a b x : Int) (h : x < a) : (irange a b).filter (fun y => decide (y = x)) = [] := by
  rw [List.filter_eq_nil_iff]
  intro y hy
  rw [ir_mem] at hy
  simp -implicitDefEqProofs only [decide_eq_true_eq]; omega
theorem filter_one : ∀ (n : Nat) (a b x : Int), (x - a).toNat = n → a ≤ x → x < b → (irange a b).filter (fun y => decide (y = x)) = [x] := by
  intro n
  induction n with
  | zero =>
    intro a b x hn h1 h2
    have : a = x := by omega
    subst this
    rw [irange_cons a b h2, List.filter_cons_of_pos (by simp), filter_none 0 _ _ _ (by omega)]
  | succ n ih =>
    intro a b x hn h1 h2
    rw [irange_cons a b (by omega), List.filter_cons_of_neg (by simp; omega), ih (a + 1) b x (by omega) (by omega) h2]
theorem next_bd (p : Tr) (k st : Int) (hm : 1 ≤ p.2) : (if p.1 > st then p.1 else st) ≤ nextI p k st ∧ nextI p k st < (if p.1 > st then p.1 else st) + p.2 := by
  have h1 := Int.emod_nonneg (k - 1 - ((if p.1 > st then p.1 else st) - p.1)) (by omega : p.2 ≠ 0)
  have h2 := Int.emod_lt_of_pos (k - 1 - ((if p.1 > st then p.1 else st) - p.1)) (by omega : 0 < p.2)
  unfold nextI
  omega
theorem row_next (p : Tr) (k st : Int) (hm : 1 ≤ p.2) (hk : 1 ≤ k) (hk2 : k ≤ p.2) : rowD p (nextI p k st) = .int k := by
  obtain ⟨b1, _⟩ := next_bd p k st hm
  have hs : p.1 ≤ (if p.1 > st then p.1 else st) := by split <;> omega
  unfold rowD
  rw [if_neg (by omega)]
  congr 1
  have e : nextI p k st - p.1 = ((if p.1 > st then p.1 else st) - p.1) + (k - 1 - ((if p.1 > st then p.1 else st) - p.1)) % p.2 := by unfold nextI; omega
  rw [e, Int.add_emod, Int.emod_emod_of_dvd _ (Int.dvd_refl p.2), ← Int.add_emod]
  have e2 : ((if p.1 > st then p.1 else st) - p.1) + (k - 1 - ((if p.1 > st then p.1 else st) - p.1)) = k - 1 := by omega
  rw [e2, Int.emod_eq_of_lt (by omega) (by omega)]; omega
theorem due_one (p : Tr) (k st y : Int) (hm : 1 ≤ p.2) (h1 : (if p.1 > st then p.1 else st) ≤ y) (h2 : y < (if p.1 > st then p.1 else st) + p.2) :
    decide ((y - p.1 - k + 1).fmod p.2 = 0) = decide (y = nextI p k st) := by
  rw [Int.fmod_eq_emod_of_nonneg _ (by omega)]
  have e : y - p.1 - k + 1 = (y - (if p.1 > st then p.1 else st)) - (k - 1 - ((if p.1 > st then p.1 else st) - p.1)) := by omega
  have h3 : (y - (if p.1 > st then p.1 else st)) % p.2 = y - (if p.1 > st then p.1 else st) := Int.emod_eq_of_lt (by omega) (by omega)
  rw [e, decide_eq_decide, ← Int.emod_eq_emod_iff_emod_sub_eq_zero, h3]
  unfold nextI
  omega
/-! ### the next row of a track -/
theorem law_l2 {r0 r1 r2 r3 r4 r7 r8 r9 r10 r11 r13 r14 r15 r16 r17 r18 r19 r20 : Option PV} (a m k st : Int) (hm : 1 ≤ m) (hm2 : m ≤ 30) :
    lcS GD F [7] (.n 7) (.so (.cmp .eq (.bin .mul (.bin .fdiv (.bin .add (.bin .sub (.bin .sub (.v 7) (.v 5)) (.v 12)) (.k (.int 1))) (.v 6)) (.v 6)) (.bin .add (.bin .sub (.bin .sub (.v 7) (.v 5)) (.v 12)) (.k (.int 1))))) (.v 7) (rng (if a > st then a else st) ((if a > st then a else st) + m) 1) [r0, r1, r2, r3, r4, some (.imm (.int a)), some (.imm (.int m)), r7, r8, r9, r10, r11, some (.imm (.int k)), r13, r14, r15, r16, r17, r18, r19, r20] = .ok (.tmp (.lst [.int (nextI (a, m) k st)]), [r0, r1, r2, r3, r4, some (.imm (.int a)), some (.imm (.int m)), r7, r8, r9, r10, r11, some (.imm (.int k)), r13, r14, r15, r16, r17, r18, r19, r20]) := by
  rw [lc_rngF GD F _ _ _ _ _ _ _ (fun y => decide ((y - a - k + 1).fmod m = 0)) .int (by omega) ?_]
  · obtain ⟨b1, b2⟩ := next_bd (a, m) k st hm
    have : (irange (if a > st then a else st) ((if a > st then a else st) + m)).filter (fun y => decide ((y - a - k + 1).fmod m = 0)) = (irange (if a > st then a else st) ((if a > st then a else st) + m)).filter (fun y => decide (y = nextI (a, m) k st)) := by
      apply List.filter_congr
      intro y hy
      rw [ir_mem] at hy
      exact due_one (a, m) k st y hm hy.1 hy.2
    rw [this, filter_one _ _ _ _ rfl b1 b2]; rfl
  · intro y h1 h2
    have k1 : ¬ m = 0 := by omega
    have k2 : m.natAbs < 1073741824 := by omega
    have k3 : (-18446744073709551616 : Int) < m := by omega
    have k4 : m < (18446744073709551616 : Int) := by omega
    have hf : (y - a + k + 1).fmod m = (y - a + k + 1) - (y - a + k + 1).fdiv m * m := by rw [Int.fmod_def, Int.mul_comm]
    have hf2 : (y - a - k + 1).fmod m = (y - a - k + 1) - (y - a - k + 1).fdiv m * m := by rw [Int.fmod_def, Int.mul_comm]
    by_cases c : (y - a - k + 1).fmod m = 0
    · have cb : ((y - a - k + 1).fdiv m * m == y - a - k + 1) = true := by rw [beq_iff_eq]; omega
      simp -implicitDefEqProofs only [lcT, k1, k2, k3, k4, c, cb, den.eq_1, den.eq_2, den.eq_3, den.eq_4, den.eq_5, den.eq_6, den.eq_7, den.eq_8, den.eq_9, den.eq_10, den.eq_11, den.eq_12, den.eq_13, den.eq_14, den.eq_15, den.eq_16, den.eq_17, den.eq_18, den.eq_19, den.eq_20, den.eq_21, den.eq_22, den.eq_23, den.eq_24, den.eq_25, den.eq_26, den.eq_27, den.eq_33, den.eq_34, denB, denF, denR, denL, denD, denI, denT, denO, denS.eq_1, denS.eq_2, denS.eq_3, denS.eq_4, denS.eq_5, denS.eq_6, denS.eq_7, denS.eq_8, denS.eq_11, denS.eq_12, denS.eq_13, denS.eq_14, denS.eq_15, denS.eq_16, denS.eq_17, denBl_c, denBl_e, goB_nx, goB_rt, goB_ct, goB_bk, goF, ↓R.bind_bnd, R.bnd_ok, R.bnd_exc, R.bnd_bad, R.of_some, R.calm_ok, hvI, hvT, hvS, rd, rdH, fz, fzH, res, resAll, setV, setVs, bindT.eq_1, bindT.eq_2, bindTs.eq_1, bindTs.eq_2, wipe, Lit.d, List.getElem?_cons_zero, List.getElem?_cons_succ, List.set_cons_zero, List.set_cons_succ, binop, augop, cmpop, truth, indexD, biop, if_true, if_false, Bool.false_eq_true, Bool.true_and, Bool.and_true, Bool.false_and, Bool.and_false, List.length_cons, List.length_nil, Option.bind_some, Option.map_some, decide_true, decide_false, decide_eq_true_eq, Bool.not_true, Bool.not_false, Bool.or_false, Bool.false_or, Bool.or_true, Bool.true_or, reduceIte, beq_iff_eq, look, isKey_ss, isKey_ii, dkeys_s, dkeys_i, dkey0_s, dkey0_i, List.all_cons, List.all_nil, List.any_cons, List.any_nil, putD, hasKey_c, hasKey_n, putVs, List.cons_beq_cons, BEq.rfl, beq_self_eq_true, goR, endE, List.map_cons, List.map_nil, Nat.reduceBEq, Nat.reduceLeDiff, Nat.reduceEqDiff, Nat.reduceAdd, Nat.reduceMul, Nat.reduceLT, Nat.reduceSub, Int.reduceLT, Int.reduceLE, Int.reduceNeg, Int.reduceMul, Int.reduceAdd, Int.reduceSub, Int.reduceEq, Int.reduceBEq, Int.reduceNe, reduceCtorEq, Int.reduceToNat, Int.natAbs_natCast, Bool.or_self, Bool.and_self, line_lit, bne_self_eq_false, Bool.bne_true, Bool.bne_false, Int.reducePow, sm64_eq, smB_eq, isTy, isiOk, isLit, denS_for0, denS_whl, den_lc, mask, fzAll, toldEx, rep_1, rep_2, rep_3, eqOk_NONE, eqv_NONE, dep_int, dep_bl, dep_str, dep_non, eqv_int, eqv_bl, eqv_str2, eqOk_int, eqOk_str, natAbs_lit, List.contains_nil, den_gen, genS_nil, genS_cons, testR, isDic, itemsOf, List.all_cons, List.any_cons, id_eq, cast_lit, List.contains_cons, goes_nx, gives_ok, goes_ct, and_self, decide_not, not_false_eq_true, ne_eq]
    · have cb : ((y - a - k + 1).fdiv m * m == y - a - k + 1) = false := by rw [beq_eq_false_iff_ne]; omega
      simp -implicitDefEqProofs only [lcT, k1, k2, k3, k4, c, cb, den.eq_1, den.eq_2, den.eq_3, den.eq_4, den.eq_5, den.eq_6, den.eq_7, den.eq_8, den.eq_9, den.eq_10, den.eq_11, den.eq_12, den.eq_13, den.eq_14, den.eq_15, den.eq_16, den.eq_17, den.eq_18, den.eq_19, den.eq_20, den.eq_21, den.eq_22, den.eq_23, den.eq_24, den.eq_25, den.eq_26, den.eq_27, den.eq_33, den.eq_34, denB, denF, denR, denL, denD, denI, denT, denO, denS.eq_1, denS.eq_2, denS.eq_3, denS.eq_4, denS.eq_5, denS.eq_6, denS.eq_7, denS.eq_8, denS.eq_11, denS.eq_12, denS.eq_13, denS.eq_14, denS.eq_15, denS.eq_16, denS.eq_17, denBl_c, denBl_e, goB_nx, goB_rt, goB_ct, goB_bk, goF, ↓R.bind_bnd, R.bnd_ok, R.bnd_exc, R.bnd_bad, R.of_some, R.calm_ok, hvI, hvT, hvS, rd, rdH, fz, fzH, res, resAll, setV, setVs, bindT.eq_1, bindT.eq_2, bindTs.eq_1, bindTs.eq_2, wipe, Lit.d, List.getElem?_cons_zero, List.getElem?_cons_succ, List.set_cons_zero, List.set_cons_succ, binop, augop, cmpop, truth, indexD, biop, if_true, if_false, Bool.false_eq_true, Bool.true_and, Bool.and_true, Bool.false_and, Bool.and_false, List.length_cons, List.length_nil, Option.bind_some, Option.map_some, decide_true, decide_false, decide_eq_true_eq, Bool.not_true, Bool.not_false, Bool.or_false, Bool.false_or, Bool.or_true, Bool.true_or, reduceIte, beq_iff_eq, look, isKey_ss, isKey_ii, dkeys_s, dkeys_i, dkey0_s, dkey0_i, List.all_cons, List.all_nil, List.any_cons, List.any_nil, putD, hasKey_c, hasKey_n, putVs, List.cons_beq_cons, BEq.rfl, beq_self_eq_true, goR, endE, List.map_cons, List.map_nil, Nat.reduceBEq, Nat.reduceLeDiff, Nat.reduceEqDiff, Nat.reduceAdd, Nat.reduceMul, Nat.reduceLT, Nat.reduceSub, Int.reduceLT, Int.reduceLE, Int.reduceNeg, Int.reduceMul, Int.reduceAdd, Int.reduceSub, Int.reduceEq, Int.reduceBEq, Int.reduceNe, reduceCtorEq, Int.reduceToNat, Int.natAbs_natCast, Bool.or_self, Bool.and_self, line_lit, bne_self_eq_false, Bool.bne_true, Bool.bne_false, Int.reducePow, sm64_eq, smB_eq, isTy, isiOk, isLit, denS_for0, denS_whl, den_lc, mask, fzAll, toldEx, rep_1, rep_2, rep_3, eqOk_NONE, eqv_NONE, dep_int, dep_bl, dep_str, dep_non, eqv_int, eqv_bl, eqv_str2, eqOk_int, eqOk_str, natAbs_lit, List.contains_nil, den_gen, genS_nil, genS_cons, testR, isDic, itemsOf, List.all_cons, List.any_cons, id_eq, cast_lit, List.contains_cons, goes_nx, gives_ok, goes_ct, and_self, decide_not, not_false_eq_true, ne_eq]
def I4 (ts : List Tr) (b : Bx) (a m st : Int) (ρ : Env) : Prop := ∃ r0 r3 r4 r7 r8 r9 r12 r13 r14 r15 r16 r17 r18 r19 r20 : Option PV, ρ = [r0, some (.own b.d), some (.imm (.tup (ts.map pr))), r3, r4, some (.imm (.int a)), some (.imm (.int m)), r7, r8, r9, some (.imm (.tup [.int a, .int m])), some (.imm (.int st)), r12, r13, r14, r15, r16, r17, r18, r19, r20]
theorem law_T4 (ts : List Tr) (b : Bx) (a m st k : Int) (hm : 1 ≤ m) (hm2 : m ≤ 30) (ha : 1 ≤ a) (ha2 : a ≤ 30) (hs : 0 ≤ st) (hs2 : st ≤ 100) (ρ : Env) (h : I4 ts b a m st ρ) : Goes ((forT GD F false (.n 12) (.c (.set 13 (.told 0 [10, 11, 12] (.call 3 (.cons (.v 10) (.cons (.v 12) (.cons (.v 11) .nil)))))) (.c (.iff (.nt (.chn .le .le (.k (.int 1)) (.v 12) (.v 6))) (.c (.iff (.cmp .ne (.v 13) (.tup (.cons (.k (.str [33])) (.cons (.k (.str [110, 111, 110, 101])) .nil)))) (.c (.ret (.k (.bl false))) .e) .e) (.c .cont .e)) .e) (.c (.set 8 (.ix (.lc [7] (.n 7) (.r2 (.bi .max2 (.cons (.v 11) (.cons (.v 5) .nil))) (.bin .add (.bi .max2 (.cons (.v 11) (.cons (.v 5) .nil))) (.v 6))) (.so (.cmp .eq (.bin .mul (.bin .fdiv (.bin .add (.bin .sub (.bin .sub (.v 7) (.v 5)) (.v 12)) (.k (.int 1))) (.v 6)) (.v 6)) (.bin .add (.bin .sub (.bin .sub (.v 7) (.v 5)) (.v 12)) (.k (.int 1))))) (.v 7)) (.k (.int 0)))) (.c (.iff (.or (.nt (.tr (.call 9 (.cons (.v 13) (.cons (.v 8) .nil))))) (.cmp .ne (.call 1 (.cons (.v 10) (.cons (.v 13) .nil))) (.v 12))) (.c (.ret (.k (.bl false))) .e) .e) .e))))) (.int k) ρ) (I4 ts b a m st) := by
  obtain ⟨r0, r3, r4, r7, r8, r9, r12, r13, r14, r15, r16, r17, r18, r19, r20, rfl⟩ := h
  have n := next_at_ok (a, m) k st hm
  have r := row_ok (a, m) (nextI (a, m) k st) hm
  unfold pr at n r
  by_cases c1 : 1 ≤ k
  · by_cases c2 : k ≤ m
    · rw [if_pos ⟨c1, c2⟩] at n
      rw [row_next (a, m) k st hm c1 c2] at r
      have l := fun r0 r1 r2 r3 r4 r7 r8 r9 r10 r11 r13 r14 r15 r16 r17 r18 r19 r20 => @law_l2 r0 r1 r2 r3 r4 r7 r8 r9 r10 r11 r13 r14 r15 r16 r17 r18 r19 r20 a m k st hm hm2
      have s1 : (if a > st then a else st) ≤ 16777216 := by split <;> omega
      have s2 : (-16777216 : Int) ≤ (if a > st then a else st) := by split <;> omega
      have s3 : (if a > st then a else st) + m ≤ 16777216 := by split <;> omega
      have s4 : (-16777216 : Int) ≤ (if a > st then a else st) + m := by split <;> omega
      have a0 := atI_nn [D.int (nextI (a, m) k st)] 0 (by decide) (by simp)
      change _ = some (D.int (nextI (a, m) k st)) at a0
      generalize nextI (a, m) k st = w at *
      simp -implicitDefEqProofs only [forT, n, r, c1, c2, l, s1, s2, s3, s4, a0, is_int, den.eq_1, den.eq_2, den.eq_3, den.eq_4, den.eq_5, den.eq_6, den.eq_7, den.eq_8, den.eq_9, den.eq_10, den.eq_11, den.eq_12, den.eq_13, den.eq_14, den.eq_15, den.eq_16, den.eq_17, den.eq_18, den.eq_19, den.eq_20, den.eq_21, den.eq_22, den.eq_23, den.eq_24, den.eq_25, den.eq_26, den.eq_27, den.eq_33, den.eq_34, denB, denF, denR, denL, denD, denI, denT, denO, denS.eq_1, denS.eq_2, denS.eq_3, denS.eq_4, denS.eq_5, denS.eq_6, denS.eq_7, denS.eq_8, denS.eq_11, denS.eq_12, denS.eq_13, denS.eq_14, denS.eq_15, denS.eq_16, denS.eq_17, denBl_c, denBl_e, goB_nx, goB_rt, goB_ct, goB_bk, goF, ↓R.bind_bnd, R.bnd_ok, R.bnd_exc, R.bnd_bad, R.of_some, R.calm_ok, hvI, hvT, hvS, rd, rdH, fz, fzH, res, resAll, setV, setVs, bindT.eq_1, bindT.eq_2, bindTs.eq_1, bindTs.eq_2, wipe, Lit.d, List.getElem?_cons_zero, List.getElem?_cons_succ, List.set_cons_zero, List.set_cons_succ, binop, augop, cmpop, truth, indexD, biop, if_true, if_false, Bool.false_eq_true, Bool.true_and, Bool.and_true, Bool.false_and, Bool.and_false, List.length_cons, List.length_nil, Option.bind_some, Option.map_some, decide_true, decide_false, decide_eq_true_eq, Bool.not_true, Bool.not_false, Bool.or_false, Bool.false_or, Bool.or_true, Bool.true_or, reduceIte, beq_iff_eq, look, isKey_ss, isKey_ii, dkeys_s, dkeys_i, dkey0_s, dkey0_i, List.all_cons, List.all_nil, List.any_cons, List.any_nil, putD, hasKey_c, hasKey_n, putVs, List.cons_beq_cons, BEq.rfl, beq_self_eq_true, goR, endE, List.map_cons, List.map_nil, Nat.reduceBEq, Nat.reduceLeDiff, Nat.reduceEqDiff, Nat.reduceAdd, Nat.reduceMul, Nat.reduceLT, Nat.reduceSub, Int.reduceLT, Int.reduceLE, Int.reduceNeg, Int.reduceMul, Int.reduceAdd, Int.reduceSub, Int.reduceEq, Int.reduceBEq, Int.reduceNe, reduceCtorEq, Int.reduceToNat, Int.natAbs_natCast, Bool.or_self, Bool.and_self, line_lit, bne_self_eq_false, Bool.bne_true, Bool.bne_false, Int.reducePow, sm64_eq, smB_eq, isTy, isiOk, isLit, denS_for0, denS_whl, den_lc, mask, fzAll, toldEx, rep_1, rep_2, rep_3, eqOk_NONE, eqv_NONE, dep_int, dep_bl, dep_str, dep_non, eqv_int, eqv_bl, eqv_str2, eqOk_int, eqOk_str, natAbs_lit, List.contains_nil, den_gen, genS_nil, genS_cons, testR, isDic, itemsOf, List.all_cons, List.any_cons, id_eq, cast_lit, List.contains_cons, goes_nx, gives_ok, goes_ct, and_self, decide_not, not_false_eq_true, ne_eq]
      exact ⟨_, _, _, _, _, _, _, _, _, _, _, _, _, _, _, rfl⟩
    · rw [if_neg (fun h => c2 h.2)] at n
      simp -implicitDefEqProofs only [forT, n, c1, c2, den.eq_1, den.eq_2, den.eq_3, den.eq_4, den.eq_5, den.eq_6, den.eq_7, den.eq_8, den.eq_9, den.eq_10, den.eq_11, den.eq_12, den.eq_13, den.eq_14, den.eq_15, den.eq_16, den.eq_17, den.eq_18, den.eq_19, den.eq_20, den.eq_21, den.eq_22, den.eq_23, den.eq_24, den.eq_25, den.eq_26, den.eq_27, den.eq_33, den.eq_34, denB, denF, denR, denL, denD, denI, denT, denO, denS.eq_1, denS.eq_2, denS.eq_3, denS.eq_4, denS.eq_5, denS.eq_6, denS.eq_7, denS.eq_8, denS.eq_11, denS.eq_12, denS.eq_13, denS.eq_14, denS.eq_15, denS.eq_16, denS.eq_17, denBl_c, denBl_e, goB_nx, goB_rt, goB_ct, goB_bk, goF, ↓R.bind_bnd, R.bnd_ok, R.bnd_exc, R.bnd_bad, R.of_some, R.calm_ok, hvI, hvT, hvS, rd, rdH, fz, fzH, res, resAll, setV, setVs, bindT.eq_1, bindT.eq_2, bindTs.eq_1, bindTs.eq_2, wipe, Lit.d, List.getElem?_cons_zero, List.getElem?_cons_succ, List.set_cons_zero, List.set_cons_succ, binop, augop, cmpop, truth, indexD, biop, if_true, if_false, Bool.false_eq_true, Bool.true_and, Bool.and_true, Bool.false_and, Bool.and_false, List.length_cons, List.length_nil, Option.bind_some, Option.map_some, decide_true, decide_false, decide_eq_true_eq, Bool.not_true, Bool.not_false, Bool.or_false, Bool.false_or, Bool.or_true, Bool.true_or, reduceIte, beq_iff_eq, look, isKey_ss, isKey_ii, dkeys_s, dkeys_i, dkey0_s, dkey0_i, List.all_cons, List.all_nil, List.any_cons, List.any_nil, putD, hasKey_c, hasKey_n, putVs, List.cons_beq_cons, BEq.rfl, beq_self_eq_true, goR, endE, List.map_cons, List.map_nil, Nat.reduceBEq, Nat.reduceLeDiff, Nat.reduceEqDiff, Nat.reduceAdd, Nat.reduceMul, Nat.reduceLT, Nat.reduceSub, Int.reduceLT, Int.reduceLE, Int.reduceNeg, Int.reduceMul, Int.reduceAdd, Int.reduceSub, Int.reduceEq, Int.reduceBEq, Int.reduceNe, reduceCtorEq, Int.reduceToNat, Int.natAbs_natCast, Bool.or_self, Bool.and_self, line_lit, bne_self_eq_false, Bool.bne_true, Bool.bne_false, Int.reducePow, sm64_eq, smB_eq, isTy, isiOk, isLit, denS_for0, denS_whl, den_lc, mask, fzAll, toldEx, rep_1, rep_2, rep_3, eqOk_NONE, eqv_NONE, dep_int, dep_bl, dep_str, dep_non, eqv_int, eqv_bl, eqv_str2, eqOk_int, eqOk_str, natAbs_lit, List.contains_nil, den_gen, genS_nil, genS_cons, testR, isDic, itemsOf, List.all_cons, List.any_cons, id_eq, cast_lit, List.contains_cons, goes_nx, gives_ok, goes_ct, and_self, decide_not, not_false_eq_true, ne_eq]
      exact ⟨_, _, _, _, _, _, _, _, _, _, _, _, _, _, _, rfl⟩
  · rw [if_neg (fun h => c1 h.1)] at n
    simp -implicitDefEqProofs only [forT, n, c1, den.eq_1, den.eq_2, den.eq_3, den.eq_4, den.eq_5, den.eq_6, den.eq_7, den.eq_8, den.eq_9, den.eq_10, den.eq_11, den.eq_12, den.eq_13, den.eq_14, den.eq_15, den.eq_16, den.eq_17, den.eq_18, den.eq_19, den.eq_20, den.eq_21, den.eq_22, den.eq_23, den.eq_24, den.eq_25, den.eq_26, den.eq_27, den.eq_33, den.eq_34, denB, denF, denR, denL, denD, denI, denT, denO, denS.eq_1, denS.eq_2, denS.eq_3, denS.eq_4, denS.eq_5, denS.eq_6, denS.eq_7, denS.eq_8, denS.eq_11, denS.eq_12, denS.eq_13, denS.eq_14, denS.eq_15, denS.eq_16, denS.eq_17, denBl_c, denBl_e, goB_nx, goB_rt, goB_ct, goB_bk, goF, ↓R.bind_bnd, R.bnd_ok, R.bnd_exc, R.bnd_bad, R.of_some, R.calm_ok, hvI, hvT, hvS, rd, rdH, fz, fzH, res, resAll, setV, setVs, bindT.eq_1, bindT.eq_2, bindTs.eq_1, bindTs.eq_2, wipe, Lit.d, List.getElem?_cons_zero, List.getElem?_cons_succ, List.set_cons_zero, List.set_cons_succ, binop, augop, cmpop, truth, indexD, biop, if_true, if_false, Bool.false_eq_true, Bool.true_and, Bool.and_true, Bool.false_and, Bool.and_false, List.length_cons, List.length_nil, Option.bind_some, Option.map_some, decide_true, decide_false, decide_eq_true_eq, Bool.not_true, Bool.not_false, Bool.or_false, Bool.false_or, Bool.or_true, Bool.true_or, reduceIte, beq_iff_eq, look, isKey_ss, isKey_ii, dkeys_s, dkeys_i, dkey0_s, dkey0_i, List.all_cons, List.all_nil, List.any_cons, List.any_nil, putD, hasKey_c, hasKey_n, putVs, List.cons_beq_cons, BEq.rfl, beq_self_eq_true, goR, endE, List.map_cons, List.map_nil, Nat.reduceBEq, Nat.reduceLeDiff, Nat.reduceEqDiff, Nat.reduceAdd, Nat.reduceMul, Nat.reduceLT, Nat.reduceSub, Int.reduceLT, Int.reduceLE, Int.reduceNeg, Int.reduceMul, Int.reduceAdd, Int.reduceSub, Int.reduceEq, Int.reduceBEq, Int.reduceNe, reduceCtorEq, Int.reduceToNat, Int.natAbs_natCast, Bool.or_self, Bool.and_self, line_lit, bne_self_eq_false, Bool.bne_true, Bool.bne_false, Int.reducePow, sm64_eq, smB_eq, isTy, isiOk, isLit, denS_for0, denS_whl, den_lc, mask, fzAll, toldEx, rep_1, rep_2, rep_3, eqOk_NONE, eqv_NONE, dep_int, dep_bl, dep_str, dep_non, eqv_int, eqv_bl, eqv_str2, eqOk_int, eqOk_str, natAbs_lit, List.contains_nil, den_gen, genS_nil, genS_cons, testR, isDic, itemsOf, List.all_cons, List.any_cons, id_eq, cast_lit, List.contains_cons, goes_nx, gives_ok, goes_ct, and_self, decide_not, not_false_eq_true, ne_eq]
    exact ⟨_, _, _, _, _, _, _, _, _, _, _, _, _, _, _, rfl⟩

/-! ### the tracks, one by one -/
def I3 (ts : List Tr) (ρ : Env) : Prop := ∃ (b : Bx) (r0 r3 r4 r5 r6 r7 r8 r9 r10 r11 r12 r13 r14 r15 r16 r17 r18 r19 r20 : Option PV), ρ = [r0, some (.own b.d), some (.imm (.tup (ts.map pr))), r3, r4, r5, r6, r7, r8, r9, r10, r11, r12, r13, r14, r15, r16, r17, r18, r19, r20]
theorem law_T3 (ts : List Tr) (p : Tr) (hp : okS p) (ρ : Env) (h : I3 ts ρ) : Goes ((forT GD F false (.n 10) (.c (.ust (.t [(.n 5), (.n 6)]) (.v 10)) (.c (.set 11 (.bin .add (.k (.int 1)) (.cio 8 1 (.cons (.k (.int 80)) .nil)))) (.c (.for_ (.n 12) (.r2 (.k (.int 0)) (.bin .add (.v 6) (.k (.int 2)))) (.c (.set 13 (.told 0 [10, 11, 12] (.call 3 (.cons (.v 10) (.cons (.v 12) (.cons (.v 11) .nil)))))) (.c (.iff (.nt (.chn .le .le (.k (.int 1)) (.v 12) (.v 6))) (.c (.iff (.cmp .ne (.v 13) (.tup (.cons (.k (.str [33])) (.cons (.k (.str [110, 111, 110, 101])) .nil)))) (.c (.ret (.k (.bl false))) .e) .e) (.c .cont .e)) .e) (.c (.set 8 (.ix (.lc [7] (.n 7) (.r2 (.bi .max2 (.cons (.v 11) (.cons (.v 5) .nil))) (.bin .add (.bi .max2 (.cons (.v 11) (.cons (.v 5) .nil))) (.v 6))) (.so (.cmp .eq (.bin .mul (.bin .fdiv (.bin .add (.bin .sub (.bin .sub (.v 7) (.v 5)) (.v 12)) (.k (.int 1))) (.v 6)) (.v 6)) (.bin .add (.bin .sub (.bin .sub (.v 7) (.v 5)) (.v 12)) (.k (.int 1))))) (.v 7)) (.k (.int 0)))) (.c (.iff (.or (.nt (.tr (.call 9 (.cons (.v 13) (.cons (.v 8) .nil))))) (.cmp .ne (.call 1 (.cons (.v 10) (.cons (.v 13) .nil))) (.v 12))) (.c (.ret (.k (.bl false))) .e) .e) .e))))) (.c (.set 14 (.bin .add (.k (.int 1000)) (.cio 8 1 (.cons (.k (.int 99999)) .nil)))) (.c (.iff (.nt (.tr (.call 9 (.cons (.call 1 (.cons (.v 10) (.cons (.v 14) .nil))) (.cons (.bin .add (.bin .sub (.bin .sub (.v 14) (.v 5)) (.bin .mul (.bin .fdiv (.bin .sub (.v 14) (.v 5)) (.v 6)) (.v 6))) (.k (.int 1))) .nil))))) (.c (.ret (.k (.bl false))) .e) .e) .e)))))) (pr p) ρ) (I3 ts) := by
  obtain ⟨b, r0, r3, r4, r5, r6, r7, r8, r9, r10, r11, r12, r13, r14, r15, r16, r17, r18, r19, r20, rfl⟩ := h
  have q1 : 1 ≤ p.1 := hp.1
  have q2 : p.1 ≤ 30 := hp.2.1
  have q3 : 1 ≤ p.2 := hp.2.2.1
  have q4 : p.2 ≤ 30 := hp.2.2.2
  have n1 := nx_ok b 80 (by decide)
  have b1 := b.v_nn 80 (by decide)
  have b2 := b.v_lt 80 (by decide)
  have n2 := nx_ok b.nx 99999 (by decide)
  have b3 := b.nx.v_nn 99999 (by decide)
  obtain ⟨a, m⟩ := p
  simp only at q1 q2 q3 q4
  obtain ⟨ρ', e, h1⟩ := for_invG (I4 ts b.nx a m (1 + b.v 80)) (forT GD F false (.n 12) (.c (.set 13 (.told 0 [10, 11, 12] (.call 3 (.cons (.v 10) (.cons (.v 12) (.cons (.v 11) .nil)))))) (.c (.iff (.nt (.chn .le .le (.k (.int 1)) (.v 12) (.v 6))) (.c (.iff (.cmp .ne (.v 13) (.tup (.cons (.k (.str [33])) (.cons (.k (.str [110, 111, 110, 101])) .nil)))) (.c (.ret (.k (.bl false))) .e) .e) (.c .cont .e)) .e) (.c (.set 8 (.ix (.lc [7] (.n 7) (.r2 (.bi .max2 (.cons (.v 11) (.cons (.v 5) .nil))) (.bin .add (.bi .max2 (.cons (.v 11) (.cons (.v 5) .nil))) (.v 6))) (.so (.cmp .eq (.bin .mul (.bin .fdiv (.bin .add (.bin .sub (.bin .sub (.v 7) (.v 5)) (.v 12)) (.k (.int 1))) (.v 6)) (.v 6)) (.bin .add (.bin .sub (.bin .sub (.v 7) (.v 5)) (.v 12)) (.k (.int 1))))) (.v 7)) (.k (.int 0)))) (.c (.iff (.or (.nt (.tr (.call 9 (.cons (.v 13) (.cons (.v 8) .nil))))) (.cmp .ne (.call 1 (.cons (.v 10) (.cons (.v 13) .nil))) (.v 12))) (.c (.ret (.k (.bl false))) .e) .e) .e))))) (rng 0 (m + 2) 1) [r0, some (.own b.nx.d), some (.imm (.tup (ts.map pr))), r3, r4, some (.imm (.int a)), some (.imm (.int m)), r7, r8, r9, some (.imm (.tup [.int a, .int m])), some (.imm (.int (1 + b.v 80))), r12, r13, r14, r15, r16, r17, r18, r19, r20]
    ⟨_, _, _, _, _, _, _, _, _, _, _, _, _, _, _, rfl⟩ (by
      intro d ρ hd hI
      obtain ⟨k, _, _, rfl⟩ := (rng_mem _ _ _).mp hd
      exact law_T4 ts b.nx a m _ k q3 q4 q1 q2 (by omega) (by omega) ρ hI)
  obtain ⟨r0, r3, r4, r7, r8, r9, r12, r13, r14, r15, r16, r17, r18, r19, r20, rfl⟩ := h1
  have s1 : m + 2 ≤ 16777216 := by omega
  have s2 : (-16777216 : Int) ≤ m + 2 := by omega
  have far := row_ok (a, m) (1000 + b.nx.v 99999) q3
  have hf : rowD (a, m) (1000 + b.nx.v 99999) = .int (1000 + b.nx.v 99999 - a - (1000 + b.nx.v 99999 - a).fdiv m * m + 1) := by
    unfold rowD
    rw [if_neg (by simp only; omega)]
    congr 2
    simp only
    rw [← Int.fmod_eq_emod_of_nonneg _ (by omega), Int.fmod_def, Int.mul_comm]
  rw [hf] at far
  unfold pr at far
  have k1 : ¬ m = 0 := by omega
  have k2 : m.natAbs < 1073741824 := by omega
  have k3 : (-18446744073709551616 : Int) < m := by omega
  have k4 : m < (18446744073709551616 : Int) := by omega
  simp -implicitDefEqProofs only [forT, pr, n1, n2, s1, s2, e, far, k1, k2, k3, k4, is_int, den.eq_1, den.eq_2, den.eq_3, den.eq_4, den.eq_5, den.eq_6, den.eq_7, den.eq_8, den.eq_9, den.eq_10, den.eq_11, den.eq_12, den.eq_13, den.eq_14, den.eq_15, den.eq_16, den.eq_17, den.eq_18, den.eq_19, den.eq_20, den.eq_21, den.eq_22, den.eq_23, den.eq_24, den.eq_25, den.eq_26, den.eq_27, den.eq_33, den.eq_34, denB, denF, denR, denL, denD, denI, denT, denO, denS.eq_1, denS.eq_2, denS.eq_3, denS.eq_4, denS.eq_5, denS.eq_6, denS.eq_7, denS.eq_8, denS.eq_11, denS.eq_12, denS.eq_13, denS.eq_14, denS.eq_15, denS.eq_16, denS.eq_17, denBl_c, denBl_e, goB_nx, goB_rt, goB_ct, goB_bk, goF, ↓R.bind_bnd, R.bnd_ok, R.bnd_exc, R.bnd_bad, R.of_some, R.calm_ok, hvI, hvT, hvS, rd, rdH, fz, fzH, res, resAll, setV, setVs, bindT.eq_1, bindT.eq_2, bindTs.eq_1, bindTs.eq_2, wipe, Lit.d, List.getElem?_cons_zero, List.getElem?_cons_succ, List.set_cons_zero, List.set_cons_succ, binop, augop, cmpop, truth, indexD, biop, if_true, if_false, Bool.false_eq_true, Bool.true_and, Bool.and_true, Bool.false_and, Bool.and_false, List.length_cons, List.length_nil, Option.bind_some, Option.map_some, decide_true, decide_false, decide_eq_true_eq, Bool.not_true, Bool.not_false, Bool.or_false, Bool.false_or, Bool.or_true, Bool.true_or, reduceIte, beq_iff_eq, look, isKey_ss, isKey_ii, dkeys_s, dkeys_i, dkey0_s, dkey0_i, List.all_cons, List.all_nil, List.any_cons, List.any_nil, putD, hasKey_c, hasKey_n, putVs, List.cons_beq_cons, BEq.rfl, beq_self_eq_true, goR, endE, List.map_cons, List.map_nil, Nat.reduceBEq, Nat.reduceLeDiff, Nat.reduceEqDiff, Nat.reduceAdd, Nat.reduceMul, Nat.reduceLT, Nat.reduceSub, Int.reduceLT, Int.reduceLE, Int.reduceNeg, Int.reduceMul, Int.reduceAdd, Int.reduceSub, Int.reduceEq, Int.reduceBEq, Int.reduceNe, reduceCtorEq, Int.reduceToNat, Int.natAbs_natCast, Bool.or_self, Bool.and_self, line_lit, bne_self_eq_false, Bool.bne_true, Bool.bne_false, Int.reducePow, sm64_eq, smB_eq, isTy, isiOk, isLit, denS_for0, denS_whl, den_lc, mask, fzAll, toldEx, rep_1, rep_2, rep_3, eqOk_NONE, eqv_NONE, dep_int, dep_bl, dep_str, dep_non, eqv_int, eqv_bl, eqv_str2, eqOk_int, eqOk_str, natAbs_lit, List.contains_nil, den_gen, genS_nil, genS_cons, testR, isDic, itemsOf, List.all_cons, List.any_cons, id_eq, cast_lit, List.contains_cons, goes_nx, gives_ok, goes_ct, and_self, decide_not, not_false_eq_true, ne_eq]
  exact ⟨_, _, _, _, _, _, _, _, _, _, _, _, _, _, _, _, _, _, _, _, rfl⟩
theorem law_6 (ts : List Tr) (h0 : 1 ≤ ts.length) (hl : ts.length ≤ 8) (ht : ∀ p ∈ ts, okS p) (ρ : Env) (h : I3 ts ρ) : ∃ ρ', (denBl GD F false (.c (.for_ (.n 10) (.ex (.v 2)) (.c (.ust (.t [(.n 5), (.n 6)]) (.v 10)) (.c (.set 11 (.bin .add (.k (.int 1)) (.cio 8 1 (.cons (.k (.int 80)) .nil)))) (.c (.for_ (.n 12) (.r2 (.k (.int 0)) (.bin .add (.v 6) (.k (.int 2)))) (.c (.set 13 (.told 0 [10, 11, 12] (.call 3 (.cons (.v 10) (.cons (.v 12) (.cons (.v 11) .nil)))))) (.c (.iff (.nt (.chn .le .le (.k (.int 1)) (.v 12) (.v 6))) (.c (.iff (.cmp .ne (.v 13) (.tup (.cons (.k (.str [33])) (.cons (.k (.str [110, 111, 110, 101])) .nil)))) (.c (.ret (.k (.bl false))) .e) .e) (.c .cont .e)) .e) (.c (.set 8 (.ix (.lc [7] (.n 7) (.r2 (.bi .max2 (.cons (.v 11) (.cons (.v 5) .nil))) (.bin .add (.bi .max2 (.cons (.v 11) (.cons (.v 5) .nil))) (.v 6))) (.so (.cmp .eq (.bin .mul (.bin .fdiv (.bin .add (.bin .sub (.bin .sub (.v 7) (.v 5)) (.v 12)) (.k (.int 1))) (.v 6)) (.v 6)) (.bin .add (.bin .sub (.bin .sub (.v 7) (.v 5)) (.v 12)) (.k (.int 1))))) (.v 7)) (.k (.int 0)))) (.c (.iff (.or (.nt (.tr (.call 9 (.cons (.v 13) (.cons (.v 8) .nil))))) (.cmp .ne (.call 1 (.cons (.v 10) (.cons (.v 13) .nil))) (.v 12))) (.c (.ret (.k (.bl false))) .e) .e) .e))))) (.c (.set 14 (.bin .add (.k (.int 1000)) (.cio 8 1 (.cons (.k (.int 99999)) .nil)))) (.c (.iff (.nt (.tr (.call 9 (.cons (.call 1 (.cons (.v 10) (.cons (.v 14) .nil))) (.cons (.bin .add (.bin .sub (.bin .sub (.v 14) (.v 5)) (.bin .mul (.bin .fdiv (.bin .sub (.v 14) (.v 5)) (.v 6)) (.v 6))) (.k (.int 1))) .nil))))) (.c (.ret (.k (.bl false))) .e) .e) .e)))))) (.c (.set 15 (.k (.int 1))) (.c (.for_ (.t [(.n 5), (.n 6)]) (.ex (.v 2)) (.c (.set 15 (.bin .fdiv (.bin .mul (.v 15) (.v 6)) (.call 11 (.cons (.v 15) (.cons (.v 6) .nil))))) .e)) (.c (.set 16 (.lc [10] (.n 10) (.ex (.v 2)) .no (.ix (.v 10) (.k (.int 1))))) (.c (.iff (.or (.nt (.tr (.call 9 (.cons (.call 4 (.cons (.bi .list (.cons (.v 16) .nil)) .nil)) (.cons (.v 15) .nil))))) (.or (.nt (.tr (.call 9 (.cons (.call 5 (.cons (.v 2) .nil)) (.cons (.v 15) .nil))))) (.nt (.tr (.call 9 (.cons (.call 4 (.cons (.lst .nil) .nil)) (.cons (.k (.int 1)) .nil))))))) (.c (.ret (.k (.bl false))) .e) .e) (.c (.set 17 (.bin .add (.bi .max (.cons (.lc [10] (.n 10) (.ex (.v 2)) .no (.ix (.v 10) (.k (.int 0)))) .nil)) (.cio 8 1 (.cons (.k (.int 50)) .nil)))) (.c (.iff (.cmp .ne (.call 2 (.cons (.v 2) (.cons (.v 17) .nil))) (.call 2 (.cons (.v 2) (.cons (.bin .add (.v 17) (.v 15)) .nil)))) (.c (.ret (.k (.bl false))) .e) .e) (.c (.set 18 (.tup (.cons (.k (.int 1)) (.cons (.k (.int 1000)) .nil)))) (.c (.set 19 (.lst (.cons (.tup .nil) (.cons (.tup (.cons (.tup (.cons (.k (.int 0)) (.cons (.k (.int 1)) .nil))) .nil)) (.cons (.tup (.cons (.tup (.cons (.k (.int 1)) (.cons (.k (.int 0)) .nil))) .nil)) (.cons (.tup (.cons (.tup (.cons (.k (.int 1001)) (.cons (.k (.int 1)) .nil))) .nil)) (.cons (.tup (.cons (.tup (.cons (.k (.int 1)) (.cons (.k (.int 1001)) .nil))) .nil)) (.cons (.tup (.cons (.tup (.cons (.k (.bl true)) (.cons (.k (.int 1)) .nil))) .nil)) (.cons (.tup (.cons (.tup (.cons (.k (.int 1)) (.cons (.k (.str [49])) .nil))) .nil)) (.cons (.tup (.cons (.tup (.cons (.k (.int 1)) .nil)) .nil)) (.cons (.tup (.cons (.tup (.cons (.k (.int 1)) (.cons (.k (.int 1)) (.cons (.k (.int 1)) .nil)))) .nil)) (.cons (.tup (.cons (.lst (.cons (.k (.int 1)) (.cons (.k (.int 1)) .nil))) .nil)) (.cons (.lst (.cons (.v 18) .nil)) (.cons (.bin .mul (.tup (.cons (.v 18) .nil)) (.k (.int 9))) (.cons (.k .non) (.cons (.v 18) (.cons (.tup (.cons (.v 18) (.cons (.k .non) .nil))) .nil))))))))))))))))) (.c (.ret (.and (.isl false (.bl true) (.call 0 (.cons (.bin .mul (.tup (.cons (.v 18) .nil)) (.k (.int 8))) .nil))) (.and (.isl false (.bl true) (.call 0 (.cons (.tup (.cons (.tup (.cons (.k (.int 1000)) (.cons (.k (.int 1)) .nil))) .nil)) .nil))) (.bi .all (.cons (.lc [20] (.n 20) (.ex (.v 19)) .no (.isl false (.bl false) (.call 0 (.cons (.v 20) .nil)))) .nil))))) .e))))))))))) ρ = .ok (.rt false (.bl true) ρ') := by
  obtain ⟨ρ1, e, h1⟩ := for_invG (I3 ts) (forT GD F false (.n 10) (.c (.ust (.t [(.n 5), (.n 6)]) (.v 10)) (.c (.set 11 (.bin .add (.k (.int 1)) (.cio 8 1 (.cons (.k (.int 80)) .nil)))) (.c (.for_ (.n 12) (.r2 (.k (.int 0)) (.bin .add (.v 6) (.k (.int 2)))) (.c (.set 13 (.told 0 [10, 11, 12] (.call 3 (.cons (.v 10) (.cons (.v 12) (.cons (.v 11) .nil)))))) (.c (.iff (.nt (.chn .le .le (.k (.int 1)) (.v 12) (.v 6))) (.c (.iff (.cmp .ne (.v 13) (.tup (.cons (.k (.str [33])) (.cons (.k (.str [110, 111, 110, 101])) .nil)))) (.c (.ret (.k (.bl false))) .e) .e) (.c .cont .e)) .e) (.c (.set 8 (.ix (.lc [7] (.n 7) (.r2 (.bi .max2 (.cons (.v 11) (.cons (.v 5) .nil))) (.bin .add (.bi .max2 (.cons (.v 11) (.cons (.v 5) .nil))) (.v 6))) (.so (.cmp .eq (.bin .mul (.bin .fdiv (.bin .add (.bin .sub (.bin .sub (.v 7) (.v 5)) (.v 12)) (.k (.int 1))) (.v 6)) (.v 6)) (.bin .add (.bin .sub (.bin .sub (.v 7) (.v 5)) (.v 12)) (.k (.int 1))))) (.v 7)) (.k (.int 0)))) (.c (.iff (.or (.nt (.tr (.call 9 (.cons (.v 13) (.cons (.v 8) .nil))))) (.cmp .ne (.call 1 (.cons (.v 10) (.cons (.v 13) .nil))) (.v 12))) (.c (.ret (.k (.bl false))) .e) .e) .e))))) (.c (.set 14 (.bin .add (.k (.int 1000)) (.cio 8 1 (.cons (.k (.int 99999)) .nil)))) (.c (.iff (.nt (.tr (.call 9 (.cons (.call 1 (.cons (.v 10) (.cons (.v 14) .nil))) (.cons (.bin .add (.bin .sub (.bin .sub (.v 14) (.v 5)) (.bin .mul (.bin .fdiv (.bin .sub (.v 14) (.v 5)) (.v 6)) (.v 6))) (.k (.int 1))) .nil))))) (.c (.ret (.k (.bl false))) .e) .e) .e)))))) (ts.map pr) ρ h (by
    intro d ρ hd hI
    obtain ⟨p, hp, rfl⟩ := List.mem_map.mp hd
    exact law_T3 ts p (ht p hp) ρ hI)
  obtain ⟨b, r0, r3, r4, r5, r6, r7, r8, r9, r10, r11, r12, r13, r14, r15, r16, r17, r18, r19, r20, rfl⟩ := h
  obtain ⟨b', r0, r3, r4, r5, r6, r7, r8, r9, r10, r11, r12, r13, r14, r15, r16, r17, r18, r19, r20, rfl⟩ := h1
  rw [denBl_c]
  simp -implicitDefEqProofs only [e, den.eq_1, den.eq_2, den.eq_3, den.eq_4, den.eq_5, den.eq_6, den.eq_7, den.eq_8, den.eq_9, den.eq_10, den.eq_11, den.eq_12, den.eq_13, den.eq_14, den.eq_15, den.eq_16, den.eq_17, den.eq_18, den.eq_19, den.eq_20, den.eq_21, den.eq_22, den.eq_23, den.eq_24, den.eq_25, den.eq_26, den.eq_27, den.eq_33, den.eq_34, denB, denF, denR, denL, denD, denI, denT, denO, denS.eq_1, denS.eq_2, denS.eq_3, denS.eq_4, denS.eq_5, denS.eq_6, denS.eq_7, denS.eq_8, denS.eq_11, denS.eq_12, denS.eq_13, denS.eq_14, denS.eq_15, denS.eq_16, denS.eq_17, denBl_e, goB_nx, goB_rt, goB_ct, goB_bk, goF, ↓R.bind_bnd, R.bnd_ok, R.bnd_exc, R.bnd_bad, R.of_some, R.calm_ok, hvI, hvT, hvS, rd, rdH, fz, fzH, res, resAll, setV, setVs, bindT.eq_1, bindT.eq_2, bindTs.eq_1, bindTs.eq_2, wipe, Lit.d, List.getElem?_cons_zero, List.getElem?_cons_succ, List.set_cons_zero, List.set_cons_succ, binop, augop, cmpop, truth, indexD, biop, if_true, if_false, Bool.false_eq_true, Bool.true_and, Bool.and_true, Bool.false_and, Bool.and_false, List.length_cons, List.length_nil, Option.bind_some, Option.map_some, decide_true, decide_false, decide_eq_true_eq, Bool.not_true, Bool.not_false, Bool.or_false, Bool.false_or, Bool.or_true, Bool.true_or, reduceIte, beq_iff_eq, look, isKey_ss, isKey_ii, dkeys_s, dkeys_i, dkey0_s, dkey0_i, List.all_cons, List.all_nil, List.any_cons, List.any_nil, putD, hasKey_c, hasKey_n, putVs, List.cons_beq_cons, BEq.rfl, beq_self_eq_true, goR, endE, List.map_cons, List.map_nil, Nat.reduceBEq, Nat.reduceLeDiff, Nat.reduceEqDiff, Nat.reduceAdd, Nat.reduceMul, Nat.reduceLT, Nat.reduceSub, Int.reduceLT, Int.reduceLE, Int.reduceNeg, Int.reduceMul, Int.reduceAdd, Int.reduceSub, Int.reduceEq, Int.reduceBEq, Int.reduceNe, reduceCtorEq, Int.reduceToNat, Int.natAbs_natCast, Bool.or_self, Bool.and_self, line_lit, bne_self_eq_false, Bool.bne_true, Bool.bne_false, Int.reducePow, sm64_eq, smB_eq, isTy, isiOk, isLit, denS_for0, denS_whl, den_lc, mask, fzAll, toldEx, rep_1, rep_2, rep_3, eqOk_NONE, eqv_NONE, dep_int, dep_bl, dep_str, dep_non, eqv_int, eqv_bl, eqv_str2, eqOk_int, eqOk_str, natAbs_lit, List.contains_nil, den_gen, genS_nil, genS_cons, testR, isDic, itemsOf, List.all_cons, List.any_cons, id_eq, cast_lit, List.contains_cons, goes_nx, gives_ok, goes_ct, and_self, decide_not, not_false_eq_true, ne_eq]
  exact law_7 ts b' h0 hl ht ..
end Kn.L

end

section
namespace Kn.L
/-! ### every row -/
def listP (p : Tr) : List D := List.replicate p.1.toNat .non ++ rep 6 ((irange 0 p.2).map fun k => D.int (k + 1))
theorem listP_len (p : Tr) (hp : okS p) : (listP p).length = p.1.toNat + 6 * p.2.toNat := by
  have q3 : 1 ≤ p.2 := hp.2.2.1
  rw [listP, List.length_append, List.length_replicate, rep_len, List.length_map, ir_len]
  congr 2; omega
theorem listP_get (p : Tr) (hp : okS p) (row : Int) (h0 : 0 ≤ row) (h : row < ((listP p).length : Nat)) : atI (listP p) row = some (rowD p row) := by
  have q1 : 1 ≤ p.1 := hp.1
  have q3 : 1 ≤ p.2 := hp.2.2.1
  rw [atI_nn _ _ h0 h]
  have hl := listP_len p hp
  rw [hl] at h
  congr 1
  unfold rowD
  by_cases c : row < p.1
  · rw [if_pos c]
    simp -implicitDefEqProofs only [listP]
    rw [List.getElem_append_left (by rw [List.length_replicate]; omega), List.getElem_replicate]
  · rw [if_neg c]
    simp -implicitDefEqProofs only [listP]
    have hml : ((irange 0 p.2).map fun k => D.int (k + 1)).length = p.2.toNat := by rw [List.length_map, ir_len]; congr 1; omega
    rw [List.getElem_append_right (by rw [List.length_replicate]; omega)]
    have hm : (row.toNat - p.1.toNat) % ((irange 0 p.2).map fun k => D.int (k + 1)).length < ((irange 0 p.2).map fun k => D.int (k + 1)).length := Nat.mod_lt _ (by rw [hml]; omega)
    simp -implicitDefEqProofs only [List.length_replicate]
    rw [rep_get 6 _ _ (by rw [hml]; omega) hm]
    simp -implicitDefEqProofs only [List.getElem_map, irange, List.getElem_range, List.length_map, List.length_range]
    congr 1
    have e1 : (row - p.1) % p.2 = (((row.toNat - p.1.toNat) % p.2.toNat : Nat) : Int) := by
      have a1 : row - p.1 = ((row.toNat - p.1.toNat : Nat) : Int) := by omega
      have a2 : p.2 = ((p.2.toNat : Nat) : Int) := by omega
      rw [a1, a2, Int.toNat_natCast]; rfl
    rw [e1]
    have e2 : (p.2 - 0).toNat = p.2.toNat := by congr 1; omega
    rw [e2]; omega
theorem isn_row (p : Tr) (row : Int) : eqOk (rowD p row) (rowD p row) = true := by
  unfold rowD; split <;> simp [eqOk, eqOk0, D.dep]
def I2r (ts : List Tr) (row : Int) (j : Int) (ρ : Env) : Prop := ∃ (b : Bx) (r0 r3 r5 r6 r9 r10 r11 r12 r13 r14 r15 r16 r17 r18 r19 r20 : Option PV), ρ = [r0, some (.own b.d), some (.imm (.tup (ts.map pr))), r3, some (.own (.lst (ts.map fun p => .lst (listP p)))), r5, r6, some (.imm (.int row)), some (.own (.lst ((ts.take j.toNat).map fun p => rowD p row))), r9, r10, r11, r12, r13, r14, r15, r16, r17, r18, r19, r20]
theorem law_T2 (ts : List Tr) (hl : ts.length ≤ 8) (ht : ∀ p ∈ ts, okS p) (row j : Int) (h0 : 1 ≤ row) (h1 : row ≤ 100) (hj : 0 ≤ j) (hj2 : j < (ts.length : Nat)) (ρ : Env) (h : I2r ts row j ρ) : Goes ((forT GD F false (.n 9) (.c (.ust (.t [(.n 5), (.n 6)]) (.ix (.v 2) (.v 9))) (.c (.app 8 (.ite (.cmp .lt (.v 7) (.v 5)) (.k .non) (.bin .add (.bin .sub (.bin .sub (.v 7) (.v 5)) (.bin .mul (.bin .fdiv (.bin .sub (.v 7) (.v 5)) (.v 6)) (.v 6))) (.k (.int 1))))) (.c (.iff (.and (.cmp .lt (.v 7) (.bi .len (.cons (.ix (.v 4) (.v 9)) .nil))) (.cmp .ne (.ix (.ix (.v 4) (.v 9)) (.v 7)) (.ix (.v 8) (.neg (.k (.int 1)))))) (.c (.ret (.k (.bl false))) .e) .e) (.c (.iff (.nt (.tr (.call 9 (.cons (.call 1 (.cons (.ix (.v 2) (.v 9)) (.cons (.v 7) .nil))) (.cons (.ix (.v 8) (.neg (.k (.int 1)))) .nil))))) (.c (.ret (.k (.bl false))) .e) .e) .e))))) (.int j) ρ) (I2r ts row (j + 1)) := by
  obtain ⟨b, r0, r3, r5, r6, r9, r10, r11, r12, r13, r14, r15, r16, r17, r18, r19, r20, rfl⟩ := h
  have hjn : j.toNat < ts.length := by omega
  have e1 := atI_nn (ts.map pr) j hj (by rw [List.length_map]; exact hj2)
  have e2 := atI_nn (ts.map fun p => D.lst (listP p)) j hj (by rw [List.length_map]; exact hj2)
  simp -implicitDefEqProofs only [List.getElem_map] at e1 e2
  have htake : (ts.take (j + 1).toNat).map (fun p => rowD p row) = (ts.take j.toNat).map (fun p => rowD p row) ++ [rowD ts[j.toNat] row] := by
    have : (j + 1).toNat = j.toNat + 1 := by omega
    rw [this, List.take_succ_eq_append_getElem hjn, List.map_append]; rfl
  have hpm := ht _ (List.getElem_mem hjn)
  generalize hp : ts[j.toNat] = p at *
  have q1 : 1 ≤ p.1 := hpm.1
  have q3 : 1 ≤ p.2 := hpm.2.2.1
  have q4 : p.2 ≤ 30 := hpm.2.2.2
  have rk := row_ok p row q3
  have is := is_row p row
  have hlen := listP_len p hpm
  have hget := listP_get p hpm row (by omega)
  have hsnoc := atI_last_snoc ((ts.take j.toNat).map fun p => rowD p row) (rowD p row)
  have eo := isn_row p row
  have ev := eqv_rowD p row
  have hl8 : ((ts.take j.toNat).map fun p => rowD p row).length < 16777216 := by rw [List.length_map, List.length_take]; omega
  have hval : rowD p row = if row < p.1 then .non else .int (row - p.1 - (row - p.1).fdiv p.2 * p.2 + 1) := by
    unfold rowD
    split
    · rfl
    · congr 2
      rw [← Int.fmod_eq_emod_of_nonneg _ (by omega), Int.fmod_def, Int.mul_comm]
  generalize listP p = L at *
  have k1 : ¬ p.2 = 0 := by omega
  have k2 : p.2.natAbs < 1073741824 := by omega
  have k3 : (-18446744073709551616 : Int) < p.2 := by omega
  have k4 : p.2 < (18446744073709551616 : Int) := by omega
  obtain ⟨a, m⟩ := p
  simp only at q1 q3 q4 hval k1 k2 k3 k4
  have fin : ∀ (r0 r3 r5 r6 r9 r10 r11 r12 r13 r14 r15 r16 r17 r18 r19 r20 : Option PV), I2r ts row (j + 1) [r0, some (.own b.d), some (.imm (.tup (ts.map pr))), r3, some (.own (.lst (ts.map fun p => .lst (listP p)))), r5, r6, some (.imm (.int row)), some (.own (.lst ((ts.take j.toNat).map (fun p => rowD p row) ++ [rowD (a, m) row]))), r9, r10, r11, r12, r13, r14, r15, r16, r17, r18, r19, r20] := by
    intro r0 r3 r5 r6 r9 r10 r11 r12 r13 r14 r15 r16 r17 r18 r19 r20
    exact ⟨b, r0, r3, r5, r6, r9, r10, r11, r12, r13, r14, r15, r16, r17, r18, r19, r20, by rw [htake]⟩
  generalize hv : rowD (a, m) row = v at *
  unfold pr at rk
  by_cases c : row < a
  · rw [if_pos c] at hval
    subst hval
    by_cases c2 : row < (L.length : Nat)
    · have hg := hget c2
      simp -implicitDefEqProofs only [forT, e1, e2, pr, c, c2, hl8, hg, hsnoc, eo, ev, rk, is, den.eq_1, den.eq_2, den.eq_3, den.eq_4, den.eq_5, den.eq_6, den.eq_7, den.eq_8, den.eq_9, den.eq_10, den.eq_11, den.eq_12, den.eq_13, den.eq_14, den.eq_15, den.eq_16, den.eq_17, den.eq_18, den.eq_19, den.eq_20, den.eq_21, den.eq_22, den.eq_23, den.eq_24, den.eq_25, den.eq_26, den.eq_27, den.eq_33, den.eq_34, denB, denF, denR, denL, denD, denI, denT, denO, denS.eq_1, denS.eq_2, denS.eq_3, denS.eq_4, denS.eq_5, denS.eq_6, denS.eq_7, denS.eq_8, denS.eq_11, denS.eq_12, denS.eq_13, denS.eq_14, denS.eq_15, denS.eq_16, denS.eq_17, denBl_c, denBl_e, goB_nx, goB_rt, goB_ct, goB_bk, goF, ↓R.bind_bnd, R.bnd_ok, R.bnd_exc, R.bnd_bad, R.of_some, R.calm_ok, hvI, hvT, hvS, rd, rdH, fz, fzH, res, resAll, setV, setVs, bindT.eq_1, bindT.eq_2, bindTs.eq_1, bindTs.eq_2, wipe, Lit.d, List.getElem?_cons_zero, List.getElem?_cons_succ, List.set_cons_zero, List.set_cons_succ, binop, augop, cmpop, truth, indexD, biop, if_true, if_false, Bool.false_eq_true, Bool.true_and, Bool.and_true, Bool.false_and, Bool.and_false, List.length_cons, List.length_nil, Option.bind_some, Option.map_some, decide_true, decide_false, decide_eq_true_eq, Bool.not_true, Bool.not_false, Bool.or_false, Bool.false_or, Bool.or_true, Bool.true_or, reduceIte, beq_iff_eq, look, isKey_ss, isKey_ii, dkeys_s, dkeys_i, dkey0_s, dkey0_i, List.all_cons, List.all_nil, List.any_cons, List.any_nil, putD, hasKey_c, hasKey_n, putVs, List.cons_beq_cons, BEq.rfl, beq_self_eq_true, goR, endE, List.map_cons, List.map_nil, Nat.reduceBEq, Nat.reduceLeDiff, Nat.reduceEqDiff, Nat.reduceAdd, Nat.reduceMul, Nat.reduceLT, Nat.reduceSub, Int.reduceLT, Int.reduceLE, Int.reduceNeg, Int.reduceMul, Int.reduceAdd, Int.reduceSub, Int.reduceEq, Int.reduceBEq, Int.reduceNe, reduceCtorEq, Int.reduceToNat, Int.natAbs_natCast, Bool.or_self, Bool.and_self, line_lit, bne_self_eq_false, Bool.bne_true, Bool.bne_false, Int.reducePow, sm64_eq, smB_eq, isTy, isiOk, isLit, denS_for0, denS_whl, den_lc, mask, fzAll, toldEx, rep_1, rep_2, rep_3, eqOk_NONE, eqv_NONE, dep_int, dep_bl, dep_str, dep_non, eqv_int, eqv_bl, eqv_str2, eqOk_int, eqOk_str, natAbs_lit, List.contains_nil, den_gen, genS_nil, genS_cons, testR, isDic, itemsOf, List.all_cons, List.any_cons, id_eq, cast_lit, List.contains_cons, goes_nx, gives_ok, goes_ct, and_self, decide_not, not_false_eq_true, ne_eq]
      exact fin ..
    · simp -implicitDefEqProofs only [forT, e1, e2, pr, c, c2, hl8, hsnoc, eo, ev, rk, is, den.eq_1, den.eq_2, den.eq_3, den.eq_4, den.eq_5, den.eq_6, den.eq_7, den.eq_8, den.eq_9, den.eq_10, den.eq_11, den.eq_12, den.eq_13, den.eq_14, den.eq_15, den.eq_16, den.eq_17, den.eq_18, den.eq_19, den.eq_20, den.eq_21, den.eq_22, den.eq_23, den.eq_24, den.eq_25, den.eq_26, den.eq_27, den.eq_33, den.eq_34, denB, denF, denR, denL, denD, denI, denT, denO, denS.eq_1, denS.eq_2, denS.eq_3, denS.eq_4, denS.eq_5, denS.eq_6, denS.eq_7, denS.eq_8, denS.eq_11, denS.eq_12, denS.eq_13, denS.eq_14, denS.eq_15, denS.eq_16, denS.eq_17, denBl_c, denBl_e, goB_nx, goB_rt, goB_ct, goB_bk, goF, ↓R.bind_bnd, R.bnd_ok, R.bnd_exc, R.bnd_bad, R.of_some, R.calm_ok, hvI, hvT, hvS, rd, rdH, fz, fzH, res, resAll, setV, setVs, bindT.eq_1, bindT.eq_2, bindTs.eq_1, bindTs.eq_2, wipe, Lit.d, List.getElem?_cons_zero, List.getElem?_cons_succ, List.set_cons_zero, List.set_cons_succ, binop, augop, cmpop, truth, indexD, biop, if_true, if_false, Bool.false_eq_true, Bool.true_and, Bool.and_true, Bool.false_and, Bool.and_false, List.length_cons, List.length_nil, Option.bind_some, Option.map_some, decide_true, decide_false, decide_eq_true_eq, Bool.not_true, Bool.not_false, Bool.or_false, Bool.false_or, Bool.or_true, Bool.true_or, reduceIte, beq_iff_eq, look, isKey_ss, isKey_ii, dkeys_s, dkeys_i, dkey0_s, dkey0_i, List.all_cons, List.all_nil, List.any_cons, List.any_nil, putD, hasKey_c, hasKey_n, putVs, List.cons_beq_cons, BEq.rfl, beq_self_eq_true, goR, endE, List.map_cons, List.map_nil, Nat.reduceBEq, Nat.reduceLeDiff, Nat.reduceEqDiff, Nat.reduceAdd, Nat.reduceMul, Nat.reduceLT, Nat.reduceSub, Int.reduceLT, Int.reduceLE, Int.reduceNeg, Int.reduceMul, Int.reduceAdd, Int.reduceSub, Int.reduceEq, Int.reduceBEq, Int.reduceNe, reduceCtorEq, Int.reduceToNat, Int.natAbs_natCast, Bool.or_self, Bool.and_self, line_lit, bne_self_eq_false, Bool.bne_true, Bool.bne_false, Int.reducePow, sm64_eq, smB_eq, isTy, isiOk, isLit, denS_for0, denS_whl, den_lc, mask, fzAll, toldEx, rep_1, rep_2, rep_3, eqOk_NONE, eqv_NONE, dep_int, dep_bl, dep_str, dep_non, eqv_int, eqv_bl, eqv_str2, eqOk_int, eqOk_str, natAbs_lit, List.contains_nil, den_gen, genS_nil, genS_cons, testR, isDic, itemsOf, List.all_cons, List.any_cons, id_eq, cast_lit, List.contains_cons, goes_nx, gives_ok, goes_ct, and_self, decide_not, not_false_eq_true, ne_eq]
      exact fin ..
  · rw [if_neg c] at hval
    subst hval
    by_cases c2 : row < (L.length : Nat)
    · have hg := hget c2
      simp -implicitDefEqProofs only [forT, e1, e2, pr, c, c2, k1, k2, k3, k4, hl8, hg, hsnoc, eo, ev, rk, is, den.eq_1, den.eq_2, den.eq_3, den.eq_4, den.eq_5, den.eq_6, den.eq_7, den.eq_8, den.eq_9, den.eq_10, den.eq_11, den.eq_12, den.eq_13, den.eq_14, den.eq_15, den.eq_16, den.eq_17, den.eq_18, den.eq_19, den.eq_20, den.eq_21, den.eq_22, den.eq_23, den.eq_24, den.eq_25, den.eq_26, den.eq_27, den.eq_33, den.eq_34, denB, denF, denR, denL, denD, denI, denT, denO, denS.eq_1, denS.eq_2, denS.eq_3, denS.eq_4, denS.eq_5, denS.eq_6, denS.eq_7, denS.eq_8, denS.eq_11, denS.eq_12, denS.eq_13, denS.eq_14, denS.eq_15, denS.eq_16, denS.eq_17, denBl_c, denBl_e, goB_nx, goB_rt, goB_ct, goB_bk, goF, ↓R.bind_bnd, R.bnd_ok, R.bnd_exc, R.bnd_bad, R.of_some, R.calm_ok, hvI, hvT, hvS, rd, rdH, fz, fzH, res, resAll, setV, setVs, bindT.eq_1, bindT.eq_2, bindTs.eq_1, bindTs.eq_2, wipe, Lit.d, List.getElem?_cons_zero, List.getElem?_cons_succ, List.set_cons_zero, List.set_cons_succ, binop, augop, cmpop, truth, indexD, biop, if_true, if_false, Bool.false_eq_true, Bool.true_and, Bool.and_true, Bool.false_and, Bool.and_false, List.length_cons, List.length_nil, Option.bind_some, Option.map_some, decide_true, decide_false, decide_eq_true_eq, Bool.not_true, Bool.not_false, Bool.or_false, Bool.false_or, Bool.or_true, Bool.true_or, reduceIte, beq_iff_eq, look, isKey_ss, isKey_ii, dkeys_s, dkeys_i, dkey0_s, dkey0_i, List.all_cons, List.all_nil, List.any_cons, List.any_nil, putD, hasKey_c, hasKey_n, putVs, List.cons_beq_cons, BEq.rfl, beq_self_eq_true, goR, endE, List.map_cons, List.map_nil, Nat.reduceBEq, Nat.reduceLeDiff, Nat.reduceEqDiff, Nat.reduceAdd, Nat.reduceMul, Nat.reduceLT, Nat.reduceSub, Int.reduceLT, Int.reduceLE, Int.reduceNeg, Int.reduceMul, Int.reduceAdd, Int.reduceSub, Int.reduceEq, Int.reduceBEq, Int.reduceNe, reduceCtorEq, Int.reduceToNat, Int.natAbs_natCast, Bool.or_self, Bool.and_self, line_lit, bne_self_eq_false, Bool.bne_true, Bool.bne_false, Int.reducePow, sm64_eq, smB_eq, isTy, isiOk, isLit, denS_for0, denS_whl, den_lc, mask, fzAll, toldEx, rep_1, rep_2, rep_3, eqOk_NONE, eqv_NONE, dep_int, dep_bl, dep_str, dep_non, eqv_int, eqv_bl, eqv_str2, eqOk_int, eqOk_str, natAbs_lit, List.contains_nil, den_gen, genS_nil, genS_cons, testR, isDic, itemsOf, List.all_cons, List.any_cons, id_eq, cast_lit, List.contains_cons, goes_nx, gives_ok, goes_ct, and_self, decide_not, not_false_eq_true, ne_eq]
      exact fin ..
    · simp -implicitDefEqProofs only [forT, e1, e2, pr, c, c2, k1, k2, k3, k4, hl8, hsnoc, eo, ev, rk, is, den.eq_1, den.eq_2, den.eq_3, den.eq_4, den.eq_5, den.eq_6, den.eq_7, den.eq_8, den.eq_9, den.eq_10, den.eq_11, den.eq_12, den.eq_13, den.eq_14, den.eq_15, den.eq_16, den.eq_17, den.eq_18, den.eq_19, den.eq_20, den.eq_21, den.eq_22, den.eq_23, den.eq_24, den.eq_25, den.eq_26, den.eq_27, den.eq_33, den.eq_34, denB, denF, denR, denL, denD, denI, denT, denO, denS.eq_1, denS.eq_2, denS.eq_3, denS.eq_4, denS.eq_5, denS.eq_6, denS.eq_7, denS.eq_8, denS.eq_11, denS.eq_12, denS.eq_13, denS.eq_14, denS.eq_15, denS.eq_16, denS.eq_17, denBl_c, denBl_e, goB_nx, goB_rt, goB_ct, goB_bk, goF, ↓R.bind_bnd, R.bnd_ok, R.bnd_exc, R.bnd_bad, R.of_some, R.calm_ok, hvI, hvT, hvS, rd, rdH, fz, fzH, res, resAll, setV, setVs, bindT.eq_1, bindT.eq_2, bindTs.eq_1, bindTs.eq_2, wipe, Lit.d, List.getElem?_cons_zero, List.getElem?_cons_succ, List.set_cons_zero, List.set_cons_succ, binop, augop, cmpop, truth, indexD, biop, if_true, if_false, Bool.false_eq_true, Bool.true_and, Bool.and_true, Bool.false_and, Bool.and_false, List.length_cons, List.length_nil, Option.bind_some, Option.map_some, decide_true, decide_false, decide_eq_true_eq, Bool.not_true, Bool.not_false, Bool.or_false, Bool.false_or, Bool.or_true, Bool.true_or, reduceIte, beq_iff_eq, look, isKey_ss, isKey_ii, dkeys_s, dkeys_i, dkey0_s, dkey0_i, List.all_cons, List.all_nil, List.any_cons, List.any_nil, putD, hasKey_c, hasKey_n, putVs, List.cons_beq_cons, BEq.rfl, beq_self_eq_true, goR, endE, List.map_cons, List.map_nil, Nat.reduceBEq, Nat.reduceLeDiff, Nat.reduceEqDiff, Nat.reduceAdd, Nat.reduceMul, Nat.reduceLT, Nat.reduceSub, Int.reduceLT, Int.reduceLE, Int.reduceNeg, Int.reduceMul, Int.reduceAdd, Int.reduceSub, Int.reduceEq, Int.reduceBEq, Int.reduceNe, reduceCtorEq, Int.reduceToNat, Int.natAbs_natCast, Bool.or_self, Bool.and_self, line_lit, bne_self_eq_false, Bool.bne_true, Bool.bne_false, Int.reducePow, sm64_eq, smB_eq, isTy, isiOk, isLit, denS_for0, denS_whl, den_lc, mask, fzAll, toldEx, rep_1, rep_2, rep_3, eqOk_NONE, eqv_NONE, dep_int, dep_bl, dep_str, dep_non, eqv_int, eqv_bl, eqv_str2, eqOk_int, eqOk_str, natAbs_lit, List.contains_nil, den_gen, genS_nil, genS_cons, testR, isDic, itemsOf, List.all_cons, List.any_cons, id_eq, cast_lit, List.contains_cons, goes_nx, gives_ok, goes_ct, and_self, decide_not, not_false_eq_true, ne_eq]
      exact fin ..
def I1r (ts : List Tr) (ρ : Env) : Prop := ∃ (b : Bx) (r0 r3 r5 r6 r7 r8 r9 r10 r11 r12 r13 r14 r15 r16 r17 r18 r19 r20 : Option PV), ρ = [r0, some (.own b.d), some (.imm (.tup (ts.map pr))), r3, some (.own (.lst (ts.map fun p => .lst (listP p)))), r5, r6, r7, r8, r9, r10, r11, r12, r13, r14, r15, r16, r17, r18, r19, r20]
theorem law_T1 (ts : List Tr) (hl : ts.length ≤ 8) (ht : ∀ p ∈ ts, okS p) (row : Int) (h0 : 1 ≤ row) (h1 : row ≤ 100) (ρ : Env) (h : I1r ts ρ) : Goes ((forT GD F false (.n 7) (.c (.set 8 (.lst .nil)) (.c (.for_ (.n 9) (.r1 (.bi .len (.cons (.v 2) .nil))) (.c (.ust (.t [(.n 5), (.n 6)]) (.ix (.v 2) (.v 9))) (.c (.app 8 (.ite (.cmp .lt (.v 7) (.v 5)) (.k .non) (.bin .add (.bin .sub (.bin .sub (.v 7) (.v 5)) (.bin .mul (.bin .fdiv (.bin .sub (.v 7) (.v 5)) (.v 6)) (.v 6))) (.k (.int 1))))) (.c (.iff (.and (.cmp .lt (.v 7) (.bi .len (.cons (.ix (.v 4) (.v 9)) .nil))) (.cmp .ne (.ix (.ix (.v 4) (.v 9)) (.v 7)) (.ix (.v 8) (.neg (.k (.int 1)))))) (.c (.ret (.k (.bl false))) .e) .e) (.c (.iff (.nt (.tr (.call 9 (.cons (.call 1 (.cons (.ix (.v 2) (.v 9)) (.cons (.v 7) .nil))) (.cons (.ix (.v 8) (.neg (.k (.int 1)))) .nil))))) (.c (.ret (.k (.bl false))) .e) .e) .e))))) (.c (.iff (.nt (.tr (.call 9 (.cons (.call 2 (.cons (.v 2) (.cons (.v 7) .nil))) (.cons (.v 8) .nil))))) (.c (.ret (.k (.bl false))) .e) .e) .e)))) (.int row) ρ) (I1r ts) := by
  obtain ⟨b, r0, r3, r5, r6, r7, r8, r9, r10, r11, r12, r13, r14, r15, r16, r17, r18, r19, r20, rfl⟩ := h
  obtain ⟨ρ', e, h2⟩ := for_rangeG (forT GD F false (.n 9) (.c (.ust (.t [(.n 5), (.n 6)]) (.ix (.v 2) (.v 9))) (.c (.app 8 (.ite (.cmp .lt (.v 7) (.v 5)) (.k .non) (.bin .add (.bin .sub (.bin .sub (.v 7) (.v 5)) (.bin .mul (.bin .fdiv (.bin .sub (.v 7) (.v 5)) (.v 6)) (.v 6))) (.k (.int 1))))) (.c (.iff (.and (.cmp .lt (.v 7) (.bi .len (.cons (.ix (.v 4) (.v 9)) .nil))) (.cmp .ne (.ix (.ix (.v 4) (.v 9)) (.v 7)) (.ix (.v 8) (.neg (.k (.int 1)))))) (.c (.ret (.k (.bl false))) .e) .e) (.c (.iff (.nt (.tr (.call 9 (.cons (.call 1 (.cons (.ix (.v 2) (.v 9)) (.cons (.v 7) .nil))) (.cons (.ix (.v 8) (.neg (.k (.int 1)))) .nil))))) (.c (.ret (.k (.bl false))) .e) .e) .e))))) 0 (ts.length : Nat) (I2r ts row) [r0, some (.own b.d), some (.imm (.tup (ts.map pr))), r3, some (.own (.lst (ts.map fun p => .lst (listP p)))), r5, r6, some (.imm (.int row)), some (.own (.lst [])), r9, r10, r11, r12, r13, r14, r15, r16, r17, r18, r19, r20] (by omega) ⟨b, _, _, _, _, _, _, _, _, _, _, _, _, _, _, _, _, rfl⟩
    (fun k ρ hk0 hk1 hI => law_T2 ts hl ht row k h0 h1 hk0 hk1 ρ hI)
  obtain ⟨b', r0, r3, r5, r6, r9, r10, r11, r12, r13, r14, r15, r16, r17, r18, r19, r20, rfl⟩ := h2
  have ht2 : ts.take ((ts.length : Nat) : Int).toNat = ts := by rw [Int.toNat_natCast, List.take_length]
  rw [ht2] at e
  have s1 : ((ts.length : Nat) : Int) ≤ 16777216 := by omega
  have s2 : (-16777216 : Int) ≤ ((ts.length : Nat) : Int) := by omega
  have rr := rows_ok ts row (by omega) ht
  have ii := is_rows ts row (by omega)
  simp -implicitDefEqProofs only [forT, List.length_map, s1, s2, e, rr, ii, den.eq_1, den.eq_2, den.eq_3, den.eq_4, den.eq_5, den.eq_6, den.eq_7, den.eq_8, den.eq_9, den.eq_10, den.eq_11, den.eq_12, den.eq_13, den.eq_14, den.eq_15, den.eq_16, den.eq_17, den.eq_18, den.eq_19, den.eq_20, den.eq_21, den.eq_22, den.eq_23, den.eq_24, den.eq_25, den.eq_26, den.eq_27, den.eq_33, den.eq_34, denB, denF, denR, denL, denD, denI, denT, denO, denS.eq_1, denS.eq_2, denS.eq_3, denS.eq_4, denS.eq_5, denS.eq_6, denS.eq_7, denS.eq_8, denS.eq_11, denS.eq_12, denS.eq_13, denS.eq_14, denS.eq_15, denS.eq_16, denS.eq_17, denBl_c, denBl_e, goB_nx, goB_rt, goB_ct, goB_bk, goF, ↓R.bind_bnd, R.bnd_ok, R.bnd_exc, R.bnd_bad, R.of_some, R.calm_ok, hvI, hvT, hvS, rd, rdH, fz, fzH, res, resAll, setV, setVs, bindT.eq_1, bindT.eq_2, bindTs.eq_1, bindTs.eq_2, wipe, Lit.d, List.getElem?_cons_zero, List.getElem?_cons_succ, List.set_cons_zero, List.set_cons_succ, binop, augop, cmpop, truth, indexD, biop, if_true, if_false, Bool.false_eq_true, Bool.true_and, Bool.and_true, Bool.false_and, Bool.and_false, List.length_cons, List.length_nil, Option.bind_some, Option.map_some, decide_true, decide_false, decide_eq_true_eq, Bool.not_true, Bool.not_false, Bool.or_false, Bool.false_or, Bool.or_true, Bool.true_or, reduceIte, beq_iff_eq, look, isKey_ss, isKey_ii, dkeys_s, dkeys_i, dkey0_s, dkey0_i, List.all_cons, List.all_nil, List.any_cons, List.any_nil, putD, hasKey_c, hasKey_n, putVs, List.cons_beq_cons, BEq.rfl, beq_self_eq_true, goR, endE, List.map_cons, List.map_nil, Nat.reduceBEq, Nat.reduceLeDiff, Nat.reduceEqDiff, Nat.reduceAdd, Nat.reduceMul, Nat.reduceLT, Nat.reduceSub, Int.reduceLT, Int.reduceLE, Int.reduceNeg, Int.reduceMul, Int.reduceAdd, Int.reduceSub, Int.reduceEq, Int.reduceBEq, Int.reduceNe, reduceCtorEq, Int.reduceToNat, Int.natAbs_natCast, Bool.or_self, Bool.and_self, line_lit, bne_self_eq_false, Bool.bne_true, Bool.bne_false, Int.reducePow, sm64_eq, smB_eq, isTy, isiOk, isLit, denS_for0, denS_whl, den_lc, mask, fzAll, toldEx, rep_1, rep_2, rep_3, eqOk_NONE, eqv_NONE, dep_int, dep_bl, dep_str, dep_non, eqv_int, eqv_bl, eqv_str2, eqOk_int, eqOk_str, natAbs_lit, List.contains_nil, den_gen, genS_nil, genS_cons, testR, isDic, itemsOf, List.all_cons, List.any_cons, id_eq, cast_lit, List.contains_cons, goes_nx, gives_ok, goes_ct, and_self, decide_not, not_false_eq_true, ne_eq]
  exact ⟨b', _, _, _, _, _, _, _, _, _, _, _, _, _, _, _, _, _, _, rfl⟩
theorem law_5 (ts : List Tr) (h0 : 1 ≤ ts.length) (hl : ts.length ≤ 8) (ht : ∀ p ∈ ts, okS p) (ρ : Env) (h : I1r ts ρ) : ∃ ρ', (denBl GD F false (.c (.for_ (.n 7) (.r2 (.k (.int 1)) (.k (.int 101))) (.c (.set 8 (.lst .nil)) (.c (.for_ (.n 9) (.r1 (.bi .len (.cons (.v 2) .nil))) (.c (.ust (.t [(.n 5), (.n 6)]) (.ix (.v 2) (.v 9))) (.c (.app 8 (.ite (.cmp .lt (.v 7) (.v 5)) (.k .non) (.bin .add (.bin .sub (.bin .sub (.v 7) (.v 5)) (.bin .mul (.bin .fdiv (.bin .sub (.v 7) (.v 5)) (.v 6)) (.v 6))) (.k (.int 1))))) (.c (.iff (.and (.cmp .lt (.v 7) (.bi .len (.cons (.ix (.v 4) (.v 9)) .nil))) (.cmp .ne (.ix (.ix (.v 4) (.v 9)) (.v 7)) (.ix (.v 8) (.neg (.k (.int 1)))))) (.c (.ret (.k (.bl false))) .e) .e) (.c (.iff (.nt (.tr (.call 9 (.cons (.call 1 (.cons (.ix (.v 2) (.v 9)) (.cons (.v 7) .nil))) (.cons (.ix (.v 8) (.neg (.k (.int 1)))) .nil))))) (.c (.ret (.k (.bl false))) .e) .e) .e))))) (.c (.iff (.nt (.tr (.call 9 (.cons (.call 2 (.cons (.v 2) (.cons (.v 7) .nil))) (.cons (.v 8) .nil))))) (.c (.ret (.k (.bl false))) .e) .e) .e)))) (.c (.for_ (.n 10) (.ex (.v 2)) (.c (.ust (.t [(.n 5), (.n 6)]) (.v 10)) (.c (.set 11 (.bin .add (.k (.int 1)) (.cio 8 1 (.cons (.k (.int 80)) .nil)))) (.c (.for_ (.n 12) (.r2 (.k (.int 0)) (.bin .add (.v 6) (.k (.int 2)))) (.c (.set 13 (.told 0 [10, 11, 12] (.call 3 (.cons (.v 10) (.cons (.v 12) (.cons (.v 11) .nil)))))) (.c (.iff (.nt (.chn .le .le (.k (.int 1)) (.v 12) (.v 6))) (.c (.iff (.cmp .ne (.v 13) (.tup (.cons (.k (.str [33])) (.cons (.k (.str [110, 111, 110, 101])) .nil)))) (.c (.ret (.k (.bl false))) .e) .e) (.c .cont .e)) .e) (.c (.set 8 (.ix (.lc [7] (.n 7) (.r2 (.bi .max2 (.cons (.v 11) (.cons (.v 5) .nil))) (.bin .add (.bi .max2 (.cons (.v 11) (.cons (.v 5) .nil))) (.v 6))) (.so (.cmp .eq (.bin .mul (.bin .fdiv (.bin .add (.bin .sub (.bin .sub (.v 7) (.v 5)) (.v 12)) (.k (.int 1))) (.v 6)) (.v 6)) (.bin .add (.bin .sub (.bin .sub (.v 7) (.v 5)) (.v 12)) (.k (.int 1))))) (.v 7)) (.k (.int 0)))) (.c (.iff (.or (.nt (.tr (.call 9 (.cons (.v 13) (.cons (.v 8) .nil))))) (.cmp .ne (.call 1 (.cons (.v 10) (.cons (.v 13) .nil))) (.v 12))) (.c (.ret (.k (.bl false))) .e) .e) .e))))) (.c (.set 14 (.bin .add (.k (.int 1000)) (.cio 8 1 (.cons (.k (.int 99999)) .nil)))) (.c (.iff (.nt (.tr (.call 9 (.cons (.call 1 (.cons (.v 10) (.cons (.v 14) .nil))) (.cons (.bin .add (.bin .sub (.bin .sub (.v 14) (.v 5)) (.bin .mul (.bin .fdiv (.bin .sub (.v 14) (.v 5)) (.v 6)) (.v 6))) (.k (.int 1))) .nil))))) (.c (.ret (.k (.bl false))) .e) .e) .e)))))) (.c (.set 15 (.k (.int 1))) (.c (.for_ (.t [(.n 5), (.n 6)]) (.ex (.v 2)) (.c (.set 15 (.bin .fdiv (.bin .mul (.v 15) (.v 6)) (.call 11 (.cons (.v 15) (.cons (.v 6) .nil))))) .e)) (.c (.set 16 (.lc [10] (.n 10) (.ex (.v 2)) .no (.ix (.v 10) (.k (.int 1))))) (.c (.iff (.or (.nt (.tr (.call 9 (.cons (.call 4 (.cons (.bi .list (.cons (.v 16) .nil)) .nil)) (.cons (.v 15) .nil))))) (.or (.nt (.tr (.call 9 (.cons (.call 5 (.cons (.v 2) .nil)) (.cons (.v 15) .nil))))) (.nt (.tr (.call 9 (.cons (.call 4 (.cons (.lst .nil) .nil)) (.cons (.k (.int 1)) .nil))))))) (.c (.ret (.k (.bl false))) .e) .e) (.c (.set 17 (.bin .add (.bi .max (.cons (.lc [10] (.n 10) (.ex (.v 2)) .no (.ix (.v 10) (.k (.int 0)))) .nil)) (.cio 8 1 (.cons (.k (.int 50)) .nil)))) (.c (.iff (.cmp .ne (.call 2 (.cons (.v 2) (.cons (.v 17) .nil))) (.call 2 (.cons (.v 2) (.cons (.bin .add (.v 17) (.v 15)) .nil)))) (.c (.ret (.k (.bl false))) .e) .e) (.c (.set 18 (.tup (.cons (.k (.int 1)) (.cons (.k (.int 1000)) .nil)))) (.c (.set 19 (.lst (.cons (.tup .nil) (.cons (.tup (.cons (.tup (.cons (.k (.int 0)) (.cons (.k (.int 1)) .nil))) .nil)) (.cons (.tup (.cons (.tup (.cons (.k (.int 1)) (.cons (.k (.int 0)) .nil))) .nil)) (.cons (.tup (.cons (.tup (.cons (.k (.int 1001)) (.cons (.k (.int 1)) .nil))) .nil)) (.cons (.tup (.cons (.tup (.cons (.k (.int 1)) (.cons (.k (.int 1001)) .nil))) .nil)) (.cons (.tup (.cons (.tup (.cons (.k (.bl true)) (.cons (.k (.int 1)) .nil))) .nil)) (.cons (.tup (.cons (.tup (.cons (.k (.int 1)) (.cons (.k (.str [49])) .nil))) .nil)) (.cons (.tup (.cons (.tup (.cons (.k (.int 1)) .nil)) .nil)) (.cons (.tup (.cons (.tup (.cons (.k (.int 1)) (.cons (.k (.int 1)) (.cons (.k (.int 1)) .nil)))) .nil)) (.cons (.tup (.cons (.lst (.cons (.k (.int 1)) (.cons (.k (.int 1)) .nil))) .nil)) (.cons (.lst (.cons (.v 18) .nil)) (.cons (.bin .mul (.tup (.cons (.v 18) .nil)) (.k (.int 9))) (.cons (.k .non) (.cons (.v 18) (.cons (.tup (.cons (.v 18) (.cons (.k .non) .nil))) .nil))))))))))))))))) (.c (.ret (.and (.isl false (.bl true) (.call 0 (.cons (.bin .mul (.tup (.cons (.v 18) .nil)) (.k (.int 8))) .nil))) (.and (.isl false (.bl true) (.call 0 (.cons (.tup (.cons (.tup (.cons (.k (.int 1000)) (.cons (.k (.int 1)) .nil))) .nil)) .nil))) (.bi .all (.cons (.lc [20] (.n 20) (.ex (.v 19)) .no (.isl false (.bl false) (.call 0 (.cons (.v 20) .nil)))) .nil))))) .e)))))))))))) ρ = .ok (.rt false (.bl true) ρ') := by
  obtain ⟨ρ1, e, h1⟩ := for_invG (I1r ts) (forT GD F false (.n 7) (.c (.set 8 (.lst .nil)) (.c (.for_ (.n 9) (.r1 (.bi .len (.cons (.v 2) .nil))) (.c (.ust (.t [(.n 5), (.n 6)]) (.ix (.v 2) (.v 9))) (.c (.app 8 (.ite (.cmp .lt (.v 7) (.v 5)) (.k .non) (.bin .add (.bin .sub (.bin .sub (.v 7) (.v 5)) (.bin .mul (.bin .fdiv (.bin .sub (.v 7) (.v 5)) (.v 6)) (.v 6))) (.k (.int 1))))) (.c (.iff (.and (.cmp .lt (.v 7) (.bi .len (.cons (.ix (.v 4) (.v 9)) .nil))) (.cmp .ne (.ix (.ix (.v 4) (.v 9)) (.v 7)) (.ix (.v 8) (.neg (.k (.int 1)))))) (.c (.ret (.k (.bl false))) .e) .e) (.c (.iff (.nt (.tr (.call 9 (.cons (.call 1 (.cons (.ix (.v 2) (.v 9)) (.cons (.v 7) .nil))) (.cons (.ix (.v 8) (.neg (.k (.int 1)))) .nil))))) (.c (.ret (.k (.bl false))) .e) .e) .e))))) (.c (.iff (.nt (.tr (.call 9 (.cons (.call 2 (.cons (.v 2) (.cons (.v 7) .nil))) (.cons (.v 8) .nil))))) (.c (.ret (.k (.bl false))) .e) .e) .e)))) (rng 1 101 1) ρ h (by
    intro d ρ hd hI
    obtain ⟨k, h1, h2, rfl⟩ := (rng_mem _ _ _).mp hd
    exact law_T1 ts hl ht k h1 (by omega) ρ hI)
  obtain ⟨b, r0, r3, r5, r6, r7, r8, r9, r10, r11, r12, r13, r14, r15, r16, r17, r18, r19, r20, rfl⟩ := h
  obtain ⟨b', r0, r3, r5, r6, r7, r8, r9, r10, r11, r12, r13, r14, r15, r16, r17, r18, r19, r20, rfl⟩ := h1
  rw [denBl_c]
  simp -implicitDefEqProofs only [e, den.eq_1, den.eq_2, den.eq_3, den.eq_4, den.eq_5, den.eq_6, den.eq_7, den.eq_8, den.eq_9, den.eq_10, den.eq_11, den.eq_12, den.eq_13, den.eq_14, den.eq_15, den.eq_16, den.eq_17, den.eq_18, den.eq_19, den.eq_20, den.eq_21, den.eq_22, den.eq_23, den.eq_24, den.eq_25, den.eq_26, den.eq_27, den.eq_33, den.eq_34, denB, denF, denR, denL, denD, denI, denT, denO, denS.eq_1, denS.eq_2, denS.eq_3, denS.eq_4, denS.eq_5, denS.eq_6, denS.eq_7, denS.eq_8, denS.eq_11, denS.eq_12, denS.eq_13, denS.eq_14, denS.eq_15, denS.eq_16, denS.eq_17, denBl_e, goB_nx, goB_rt, goB_ct, goB_bk, goF, ↓R.bind_bnd, R.bnd_ok, R.bnd_exc, R.bnd_bad, R.of_some, R.calm_ok, hvI, hvT, hvS, rd, rdH, fz, fzH, res, resAll, setV, setVs, bindT.eq_1, bindT.eq_2, bindTs.eq_1, bindTs.eq_2, wipe, Lit.d, List.getElem?_cons_zero, List.getElem?_cons_succ, List.set_cons_zero, List.set_cons_succ, binop, augop, cmpop, truth, indexD, biop, if_true, if_false, Bool.false_eq_true, Bool.true_and, Bool.and_true, Bool.false_and, Bool.and_false, List.length_cons, List.length_nil, Option.bind_some, Option.map_some, decide_true, decide_false, decide_eq_true_eq, Bool.not_true, Bool.not_false, Bool.or_false, Bool.false_or, Bool.or_true, Bool.true_or, reduceIte, beq_iff_eq, look, isKey_ss, isKey_ii, dkeys_s, dkeys_i, dkey0_s, dkey0_i, List.all_cons, List.all_nil, List.any_cons, List.any_nil, putD, hasKey_c, hasKey_n, putVs, List.cons_beq_cons, BEq.rfl, beq_self_eq_true, goR, endE, List.map_cons, List.map_nil, Nat.reduceBEq, Nat.reduceLeDiff, Nat.reduceEqDiff, Nat.reduceAdd, Nat.reduceMul, Nat.reduceLT, Nat.reduceSub, Int.reduceLT, Int.reduceLE, Int.reduceNeg, Int.reduceMul, Int.reduceAdd, Int.reduceSub, Int.reduceEq, Int.reduceBEq, Int.reduceNe, reduceCtorEq, Int.reduceToNat, Int.natAbs_natCast, Bool.or_self, Bool.and_self, line_lit, bne_self_eq_false, Bool.bne_true, Bool.bne_false, Int.reducePow, sm64_eq, smB_eq, isTy, isiOk, isLit, denS_for0, denS_whl, den_lc, mask, fzAll, toldEx, rep_1, rep_2, rep_3, eqOk_NONE, eqv_NONE, dep_int, dep_bl, dep_str, dep_non, eqv_int, eqv_bl, eqv_str2, eqOk_int, eqOk_str, natAbs_lit, List.contains_nil, den_gen, genS_nil, genS_cons, testR, isDic, itemsOf, List.all_cons, List.any_cons, id_eq, cast_lit, List.contains_cons, goes_nx, gives_ok, goes_ct, and_self, decide_not, not_false_eq_true, ne_eq]
  exact law_6 ts h0 hl ht _ ⟨b', _, _, _, _, _, _, _, _, _, _, _, _, _, _, _, _, _, _, _, rfl⟩
/-! ### the lists -/
theorem law_l1 {r0 r1 r2 r3 r4 r5 r6 r7 r8 r9 r10 r11 r12 r13 r14 r15 r16 r17 r18 r19 r20 : Option PV} (m : Int) (hm : m ≤ 1000) :
    lcS GD F [3] (.n 3) .no (.bin .add (.v 3) (.k (.int 1))) (rng 0 m 1) [r0, r1, r2, r3, r4, r5, r6, r7, r8, r9, r10, r11, r12, r13, r14, r15, r16, r17, r18, r19, r20] = .ok (.tmp (.lst ((irange 0 m).map fun k => .int (k + 1))), [r0, r1, r2, r3, r4, r5, r6, r7, r8, r9, r10, r11, r12, r13, r14, r15, r16, r17, r18, r19, r20]) := by
  rw [lc_rngM GD F _ _ _ _ _ 0 m (fun k => .int (k + 1)) (by omega) ?_]
  intro k h1 h2
  simp -implicitDefEqProofs only [lcT, den.eq_1, den.eq_2, den.eq_3, den.eq_4, den.eq_5, den.eq_6, den.eq_7, den.eq_8, den.eq_9, den.eq_10, den.eq_11, den.eq_12, den.eq_13, den.eq_14, den.eq_15, den.eq_16, den.eq_17, den.eq_18, den.eq_19, den.eq_20, den.eq_21, den.eq_22, den.eq_23, den.eq_24, den.eq_25, den.eq_26, den.eq_27, den.eq_33, den.eq_34, denB, denF, denR, denL, denD, denI, denT, denO, denS.eq_1, denS.eq_2, denS.eq_3, denS.eq_4, denS.eq_5, denS.eq_6, denS.eq_7, denS.eq_8, denS.eq_11, denS.eq_12, denS.eq_13, denS.eq_14, denS.eq_15, denS.eq_16, denS.eq_17, denBl_c, denBl_e, goB_nx, goB_rt, goB_ct, goB_bk, goF, ↓R.bind_bnd, R.bnd_ok, R.bnd_exc, R.bnd_bad, R.of_some, R.calm_ok, hvI, hvT, hvS, rd, rdH, fz, fzH, res, resAll, setV, setVs, bindT.eq_1, bindT.eq_2, bindTs.eq_1, bindTs.eq_2, wipe, Lit.d, List.getElem?_cons_zero, List.getElem?_cons_succ, List.set_cons_zero, List.set_cons_succ, binop, augop, cmpop, truth, indexD, biop, if_true, if_false, Bool.false_eq_true, Bool.true_and, Bool.and_true, Bool.false_and, Bool.and_false, List.length_cons, List.length_nil, Option.bind_some, Option.map_some, decide_true, decide_false, decide_eq_true_eq, Bool.not_true, Bool.not_false, Bool.or_false, Bool.false_or, Bool.or_true, Bool.true_or, reduceIte, beq_iff_eq, look, isKey_ss, isKey_ii, dkeys_s, dkeys_i, dkey0_s, dkey0_i, List.all_cons, List.all_nil, List.any_cons, List.any_nil, putD, hasKey_c, hasKey_n, putVs, List.cons_beq_cons, BEq.rfl, beq_self_eq_true, goR, endE, List.map_cons, List.map_nil, Nat.reduceBEq, Nat.reduceLeDiff, Nat.reduceEqDiff, Nat.reduceAdd, Nat.reduceMul, Nat.reduceLT, Nat.reduceSub, Int.reduceLT, Int.reduceLE, Int.reduceNeg, Int.reduceMul, Int.reduceAdd, Int.reduceSub, Int.reduceEq, Int.reduceBEq, Int.reduceNe, reduceCtorEq, Int.reduceToNat, Int.natAbs_natCast, Bool.or_self, Bool.and_self, line_lit, bne_self_eq_false, Bool.bne_true, Bool.bne_false, Int.reducePow, sm64_eq, smB_eq, isTy, isiOk, isLit, denS_for0, denS_whl, den_lc, mask, fzAll, toldEx, rep_1, rep_2, rep_3, eqOk_NONE, eqv_NONE, dep_int, dep_bl, dep_str, dep_non, eqv_int, eqv_bl, eqv_str2, eqOk_int, eqOk_str, natAbs_lit, List.contains_nil, den_gen, genS_nil, genS_cons, testR, isDic, itemsOf, List.all_cons, List.any_cons, id_eq, cast_lit, List.contains_cons, goes_nx, gives_ok, goes_ct, and_self, decide_not, not_false_eq_true, ne_eq]
def I0r (ts : List Tr) (b : Bx) (xs : List D) (ρ : Env) : Prop := ∃ r0 r3 r5 r6 r7 r8 r9 r10 r11 r12 r13 r14 r15 r16 r17 r18 r19 r20 : Option PV, xs.length ≤ 1000 ∧ ρ = [r0, some (.own b.d), some (.imm (.tup (ts.map pr))), r3, some (.own (.lst xs)), r5, r6, r7, r8, r9, r10, r11, r12, r13, r14, r15, r16, r17, r18, r19, r20]
theorem law_T0 (ts : List Tr) (b : Bx) (xs : List D) (p : Tr) (hp : okS p) (hx : xs.length ≤ 900) (ρ : Env) (h : I0r ts b xs ρ) : Goes ((forT GD F false (.t [(.n 5), (.n 6)]) (.c (.app 4 (.bin .add (.bin .mul (.lst (.cons (.k .non) .nil)) (.v 5)) (.bin .mul (.lc [3] (.n 3) (.r1 (.v 6)) .no (.bin .add (.v 3) (.k (.int 1)))) (.k (.int 6))))) .e)) (pr p) ρ) (I0r ts b (xs ++ [.lst (listP p)])) := by
  obtain ⟨r0, r3, r5, r6, r7, r8, r9, r10, r11, r12, r13, r14, r15, r16, r17, r18, r19, r20, hxs, rfl⟩ := h
  have q1 : 1 ≤ p.1 := hp.1
  have q2 : p.1 ≤ 30 := hp.2.1
  have q3 : 1 ≤ p.2 := hp.2.2.1
  have q4 : p.2 ≤ 30 := hp.2.2.2
  have hL : listP p = List.replicate p.1.toNat .non ++ rep 6 ((irange 0 p.2).map fun k => D.int (k + 1)) := rfl
  obtain ⟨a, m⟩ := p
  simp only at q1 q2 q3 q4 hL
  have l := fun r0 r1 r2 r3 r4 r5 r6 r7 r8 r9 r10 r11 r12 r13 r14 r15 r16 r17 r18 r19 r20 => @law_l1 r0 r1 r2 r3 r4 r5 r6 r7 r8 r9 r10 r11 r12 r13 r14 r15 r16 r17 r18 r19 r20 m (by omega)
  have a1 : a ≤ 16777216 := by omega
  have a2 : (-16777216 : Int) ≤ a := by omega
  have m1 : m ≤ 16777216 := by omega
  have m2 : (-16777216 : Int) ≤ m := by omega
  have a3 : 1 * a.toNat ≤ 16777216 := by omega
  have m3 : (irange 0 m).length * 6 ≤ 16777216 := by rw [ir_len]; omega
  have m4 : (List.replicate a.toNat D.non).length + (rep 6 ((irange 0 m).map fun k => D.int (k + 1))).length ≤ 16777216 := by rw [List.length_replicate, rep_len, List.length_map, ir_len]; omega
  have hx2 : xs.length < 16777216 := by omega
  have hr : List.replicate a.toNat D.non = rep a.toNat [D.non] := (rep_single _ _).symm
  rw [hr] at m4 hL
  simp -implicitDefEqProofs only [forT, pr, l, a1, a2, a3, m1, m2, m3, m4, hx2, List.length_map, den.eq_1, den.eq_2, den.eq_3, den.eq_4, den.eq_5, den.eq_6, den.eq_7, den.eq_8, den.eq_9, den.eq_10, den.eq_11, den.eq_12, den.eq_13, den.eq_14, den.eq_15, den.eq_16, den.eq_17, den.eq_18, den.eq_19, den.eq_20, den.eq_21, den.eq_22, den.eq_23, den.eq_24, den.eq_25, den.eq_26, den.eq_27, den.eq_33, den.eq_34, denB, denF, denR, denL, denD, denI, denT, denO, denS.eq_1, denS.eq_2, denS.eq_3, denS.eq_4, denS.eq_5, denS.eq_6, denS.eq_7, denS.eq_8, denS.eq_11, denS.eq_12, denS.eq_13, denS.eq_14, denS.eq_15, denS.eq_16, denS.eq_17, denBl_c, denBl_e, goB_nx, goB_rt, goB_ct, goB_bk, goF, ↓R.bind_bnd, R.bnd_ok, R.bnd_exc, R.bnd_bad, R.of_some, R.calm_ok, hvI, hvT, hvS, rd, rdH, fz, fzH, res, resAll, setV, setVs, bindT.eq_1, bindT.eq_2, bindTs.eq_1, bindTs.eq_2, wipe, Lit.d, List.getElem?_cons_zero, List.getElem?_cons_succ, List.set_cons_zero, List.set_cons_succ, binop, augop, cmpop, truth, indexD, biop, if_true, if_false, Bool.false_eq_true, Bool.true_and, Bool.and_true, Bool.false_and, Bool.and_false, List.length_cons, List.length_nil, Option.bind_some, Option.map_some, decide_true, decide_false, decide_eq_true_eq, Bool.not_true, Bool.not_false, Bool.or_false, Bool.false_or, Bool.or_true, Bool.true_or, reduceIte, beq_iff_eq, look, isKey_ss, isKey_ii, dkeys_s, dkeys_i, dkey0_s, dkey0_i, List.all_cons, List.all_nil, List.any_cons, List.any_nil, putD, hasKey_c, hasKey_n, putVs, List.cons_beq_cons, BEq.rfl, beq_self_eq_true, goR, endE, List.map_cons, List.map_nil, Nat.reduceBEq, Nat.reduceLeDiff, Nat.reduceEqDiff, Nat.reduceAdd, Nat.reduceMul, Nat.reduceLT, Nat.reduceSub, Int.reduceLT, Int.reduceLE, Int.reduceNeg, Int.reduceMul, Int.reduceAdd, Int.reduceSub, Int.reduceEq, Int.reduceBEq, Int.reduceNe, reduceCtorEq, Int.reduceToNat, Int.natAbs_natCast, Bool.or_self, Bool.and_self, line_lit, bne_self_eq_false, Bool.bne_true, Bool.bne_false, Int.reducePow, sm64_eq, smB_eq, isTy, isiOk, isLit, denS_for0, denS_whl, den_lc, mask, fzAll, toldEx, rep_1, rep_2, rep_3, eqOk_NONE, eqv_NONE, dep_int, dep_bl, dep_str, dep_non, eqv_int, eqv_bl, eqv_str2, eqOk_int, eqOk_str, natAbs_lit, List.contains_nil, den_gen, genS_nil, genS_cons, testR, isDic, itemsOf, List.all_cons, List.any_cons, id_eq, cast_lit, List.contains_cons, goes_nx, gives_ok, goes_ct, and_self, decide_not, not_false_eq_true, ne_eq]
  rw [← hL]
  exact ⟨_, _, _, _, _, _, _, _, _, _, _, _, _, _, _, _, _, _, by rw [List.length_append, List.length_singleton]; omega, rfl⟩
theorem law_3 (ts : List Tr) (b : Bx) (h0 : 1 ≤ ts.length) (hl : ts.length ≤ 8) (ht : ∀ p ∈ ts, okS p) (r0 r3 r4 r5 r6 r7 r8 r9 r10 r11 r12 r13 r14 r15 r16 r17 r18 r19 r20 : Option PV) :
    ∃ ρ', (denBl GD F false (.c (.set 4 (.lst .nil)) (.c (.for_ (.t [(.n 5), (.n 6)]) (.ex (.v 2)) (.c (.app 4 (.bin .add (.bin .mul (.lst (.cons (.k .non) .nil)) (.v 5)) (.bin .mul (.lc [3] (.n 3) (.r1 (.v 6)) .no (.bin .add (.v 3) (.k (.int 1)))) (.k (.int 6))))) .e)) (.c (.for_ (.n 7) (.r2 (.k (.int 1)) (.k (.int 101))) (.c (.set 8 (.lst .nil)) (.c (.for_ (.n 9) (.r1 (.bi .len (.cons (.v 2) .nil))) (.c (.ust (.t [(.n 5), (.n 6)]) (.ix (.v 2) (.v 9))) (.c (.app 8 (.ite (.cmp .lt (.v 7) (.v 5)) (.k .non) (.bin .add (.bin .sub (.bin .sub (.v 7) (.v 5)) (.bin .mul (.bin .fdiv (.bin .sub (.v 7) (.v 5)) (.v 6)) (.v 6))) (.k (.int 1))))) (.c (.iff (.and (.cmp .lt (.v 7) (.bi .len (.cons (.ix (.v 4) (.v 9)) .nil))) (.cmp .ne (.ix (.ix (.v 4) (.v 9)) (.v 7)) (.ix (.v 8) (.neg (.k (.int 1)))))) (.c (.ret (.k (.bl false))) .e) .e) (.c (.iff (.nt (.tr (.call 9 (.cons (.call 1 (.cons (.ix (.v 2) (.v 9)) (.cons (.v 7) .nil))) (.cons (.ix (.v 8) (.neg (.k (.int 1)))) .nil))))) (.c (.ret (.k (.bl false))) .e) .e) .e))))) (.c (.iff (.nt (.tr (.call 9 (.cons (.call 2 (.cons (.v 2) (.cons (.v 7) .nil))) (.cons (.v 8) .nil))))) (.c (.ret (.k (.bl false))) .e) .e) .e)))) (.c (.for_ (.n 10) (.ex (.v 2)) (.c (.ust (.t [(.n 5), (.n 6)]) (.v 10)) (.c (.set 11 (.bin .add (.k (.int 1)) (.cio 8 1 (.cons (.k (.int 80)) .nil)))) (.c (.for_ (.n 12) (.r2 (.k (.int 0)) (.bin .add (.v 6) (.k (.int 2)))) (.c (.set 13 (.told 0 [10, 11, 12] (.call 3 (.cons (.v 10) (.cons (.v 12) (.cons (.v 11) .nil)))))) (.c (.iff (.nt (.chn .le .le (.k (.int 1)) (.v 12) (.v 6))) (.c (.iff (.cmp .ne (.v 13) (.tup (.cons (.k (.str [33])) (.cons (.k (.str [110, 111, 110, 101])) .nil)))) (.c (.ret (.k (.bl false))) .e) .e) (.c .cont .e)) .e) (.c (.set 8 (.ix (.lc [7] (.n 7) (.r2 (.bi .max2 (.cons (.v 11) (.cons (.v 5) .nil))) (.bin .add (.bi .max2 (.cons (.v 11) (.cons (.v 5) .nil))) (.v 6))) (.so (.cmp .eq (.bin .mul (.bin .fdiv (.bin .add (.bin .sub (.bin .sub (.v 7) (.v 5)) (.v 12)) (.k (.int 1))) (.v 6)) (.v 6)) (.bin .add (.bin .sub (.bin .sub (.v 7) (.v 5)) (.v 12)) (.k (.int 1))))) (.v 7)) (.k (.int 0)))) (.c (.iff (.or (.nt (.tr (.call 9 (.cons (.v 13) (.cons (.v 8) .nil))))) (.cmp .ne (.call 1 (.cons (.v 10) (.cons (.v 13) .nil))) (.v 12))) (.c (.ret (.k (.bl false))) .e) .e) .e))))) (.c (.set 14 (.bin .add (.k (.int 1000)) (.cio 8 1 (.cons (.k (.int 99999)) .nil)))) (.c (.iff (.nt (.tr (.call 9 (.cons (.call 1 (.cons (.v 10) (.cons (.v 14) .nil))) (.cons (.bin .add (.bin .sub (.bin .sub (.v 14) (.v 5)) (.bin .mul (.bin .fdiv (.bin .sub (.v 14) (.v 5)) (.v 6)) (.v 6))) (.k (.int 1))) .nil))))) (.c (.ret (.k (.bl false))) .e) .e) .e)))))) (.c (.set 15 (.k (.int 1))) (.c (.for_ (.t [(.n 5), (.n 6)]) (.ex (.v 2)) (.c (.set 15 (.bin .fdiv (.bin .mul (.v 15) (.v 6)) (.call 11 (.cons (.v 15) (.cons (.v 6) .nil))))) .e)) (.c (.set 16 (.lc [10] (.n 10) (.ex (.v 2)) .no (.ix (.v 10) (.k (.int 1))))) (.c (.iff (.or (.nt (.tr (.call 9 (.cons (.call 4 (.cons (.bi .list (.cons (.v 16) .nil)) .nil)) (.cons (.v 15) .nil))))) (.or (.nt (.tr (.call 9 (.cons (.call 5 (.cons (.v 2) .nil)) (.cons (.v 15) .nil))))) (.nt (.tr (.call 9 (.cons (.call 4 (.cons (.lst .nil) .nil)) (.cons (.k (.int 1)) .nil))))))) (.c (.ret (.k (.bl false))) .e) .e) (.c (.set 17 (.bin .add (.bi .max (.cons (.lc [10] (.n 10) (.ex (.v 2)) .no (.ix (.v 10) (.k (.int 0)))) .nil)) (.cio 8 1 (.cons (.k (.int 50)) .nil)))) (.c (.iff (.cmp .ne (.call 2 (.cons (.v 2) (.cons (.v 17) .nil))) (.call 2 (.cons (.v 2) (.cons (.bin .add (.v 17) (.v 15)) .nil)))) (.c (.ret (.k (.bl false))) .e) .e) (.c (.set 18 (.tup (.cons (.k (.int 1)) (.cons (.k (.int 1000)) .nil)))) (.c (.set 19 (.lst (.cons (.tup .nil) (.cons (.tup (.cons (.tup (.cons (.k (.int 0)) (.cons (.k (.int 1)) .nil))) .nil)) (.cons (.tup (.cons (.tup (.cons (.k (.int 1)) (.cons (.k (.int 0)) .nil))) .nil)) (.cons (.tup (.cons (.tup (.cons (.k (.int 1001)) (.cons (.k (.int 1)) .nil))) .nil)) (.cons (.tup (.cons (.tup (.cons (.k (.int 1)) (.cons (.k (.int 1001)) .nil))) .nil)) (.cons (.tup (.cons (.tup (.cons (.k (.bl true)) (.cons (.k (.int 1)) .nil))) .nil)) (.cons (.tup (.cons (.tup (.cons (.k (.int 1)) (.cons (.k (.str [49])) .nil))) .nil)) (.cons (.tup (.cons (.tup (.cons (.k (.int 1)) .nil)) .nil)) (.cons (.tup (.cons (.tup (.cons (.k (.int 1)) (.cons (.k (.int 1)) (.cons (.k (.int 1)) .nil)))) .nil)) (.cons (.tup (.cons (.lst (.cons (.k (.int 1)) (.cons (.k (.int 1)) .nil))) .nil)) (.cons (.lst (.cons (.v 18) .nil)) (.cons (.bin .mul (.tup (.cons (.v 18) .nil)) (.k (.int 9))) (.cons (.k .non) (.cons (.v 18) (.cons (.tup (.cons (.v 18) (.cons (.k .non) .nil))) .nil))))))))))))))))) (.c (.ret (.and (.isl false (.bl true) (.call 0 (.cons (.bin .mul (.tup (.cons (.v 18) .nil)) (.k (.int 8))) .nil))) (.and (.isl false (.bl true) (.call 0 (.cons (.tup (.cons (.tup (.cons (.k (.int 1000)) (.cons (.k (.int 1)) .nil))) .nil)) .nil))) (.bi .all (.cons (.lc [20] (.n 20) (.ex (.v 19)) .no (.isl false (.bl false) (.call 0 (.cons (.v 20) .nil)))) .nil))))) .e)))))))))))))) [r0, some (.own b.d), some (.imm (.tup (ts.map pr))), r3, r4, r5, r6, r7, r8, r9, r10, r11, r12, r13, r14, r15, r16, r17, r18, r19, r20] = .ok (.rt false (.bl true) ρ') := by
  rw [denBl_c]
  simp -implicitDefEqProofs only [den.eq_1, den.eq_2, den.eq_3, den.eq_4, den.eq_5, den.eq_6, den.eq_7, den.eq_8, den.eq_9, den.eq_10, den.eq_11, den.eq_12, den.eq_13, den.eq_14, den.eq_15, den.eq_16, den.eq_17, den.eq_18, den.eq_19, den.eq_20, den.eq_21, den.eq_22, den.eq_23, den.eq_24, den.eq_25, den.eq_26, den.eq_27, den.eq_33, den.eq_34, denB, denF, denR, denL, denD, denI, denT, denO, denS.eq_1, denS.eq_2, denS.eq_3, denS.eq_4, denS.eq_5, denS.eq_6, denS.eq_7, denS.eq_8, denS.eq_11, denS.eq_12, denS.eq_13, denS.eq_14, denS.eq_15, denS.eq_16, denS.eq_17, denBl_e, goB_nx, goB_rt, goB_ct, goB_bk, goF, ↓R.bind_bnd, R.bnd_ok, R.bnd_exc, R.bnd_bad, R.of_some, R.calm_ok, hvI, hvT, hvS, rd, rdH, fz, fzH, res, resAll, setV, setVs, bindT.eq_1, bindT.eq_2, bindTs.eq_1, bindTs.eq_2, wipe, Lit.d, List.getElem?_cons_zero, List.getElem?_cons_succ, List.set_cons_zero, List.set_cons_succ, binop, augop, cmpop, truth, indexD, biop, if_true, if_false, Bool.false_eq_true, Bool.true_and, Bool.and_true, Bool.false_and, Bool.and_false, List.length_cons, List.length_nil, Option.bind_some, Option.map_some, decide_true, decide_false, decide_eq_true_eq, Bool.not_true, Bool.not_false, Bool.or_false, Bool.false_or, Bool.or_true, Bool.true_or, reduceIte, beq_iff_eq, look, isKey_ss, isKey_ii, dkeys_s, dkeys_i, dkey0_s, dkey0_i, List.all_cons, List.all_nil, List.any_cons, List.any_nil, putD, hasKey_c, hasKey_n, putVs, List.cons_beq_cons, BEq.rfl, beq_self_eq_true, goR, endE, List.map_cons, List.map_nil, Nat.reduceBEq, Nat.reduceLeDiff, Nat.reduceEqDiff, Nat.reduceAdd, Nat.reduceMul, Nat.reduceLT, Nat.reduceSub, Int.reduceLT, Int.reduceLE, Int.reduceNeg, Int.reduceMul, Int.reduceAdd, Int.reduceSub, Int.reduceEq, Int.reduceBEq, Int.reduceNe, reduceCtorEq, Int.reduceToNat, Int.natAbs_natCast, Bool.or_self, Bool.and_self, line_lit, bne_self_eq_false, Bool.bne_true, Bool.bne_false, Int.reducePow, sm64_eq, smB_eq, isTy, isiOk, isLit, denS_for0, denS_whl, den_lc, mask, fzAll, toldEx, rep_1, rep_2, rep_3, eqOk_NONE, eqv_NONE, dep_int, dep_bl, dep_str, dep_non, eqv_int, eqv_bl, eqv_str2, eqOk_int, eqOk_str, natAbs_lit, List.contains_nil, den_gen, genS_nil, genS_cons, testR, isDic, itemsOf, List.all_cons, List.any_cons, id_eq, cast_lit, List.contains_cons, goes_nx, gives_ok, goes_ct, and_self, decide_not, not_false_eq_true, ne_eq]
  obtain ⟨ρ', e, h2⟩ := for_ixG (fun k ρ => I0r ts b ((ts.take k).map fun p => .lst (listP p)) ρ) (forT GD F false (.t [(.n 5), (.n 6)]) (.c (.app 4 (.bin .add (.bin .mul (.lst (.cons (.k .non) .nil)) (.v 5)) (.bin .mul (.lc [3] (.n 3) (.r1 (.v 6)) .no (.bin .add (.v 3) (.k (.int 1)))) (.k (.int 6))))) .e)) (ts.map pr) [r0, some (.own b.d), some (.imm (.tup (ts.map pr))), r3, some (.own (.lst [])), r5, r6, r7, r8, r9, r10, r11, r12, r13, r14, r15, r16, r17, r18, r19, r20]
    ⟨_, _, _, _, _, _, _, _, _, _, _, _, _, _, _, _, _, _, by simp, rfl⟩ (by
      intro k ρ hk hI
      rw [List.length_map] at hk
      have := law_T0 ts b _ ts[k] (ht _ (List.getElem_mem hk)) (by rw [List.length_map, List.length_take]; omega) ρ hI
      rw [List.take_succ_eq_append_getElem hk, List.map_append]
      simp -implicitDefEqProofs only [List.getElem_map]
      exact this)
  rw [List.length_map, List.take_length] at h2
  obtain ⟨r0, r3, r5, r6, r7, r8, r9, r10, r11, r12, r13, r14, r15, r16, r17, r18, r19, r20, _, rfl⟩ := h2
  rw [denBl_c]
  simp -implicitDefEqProofs only [e, den.eq_1, den.eq_2, den.eq_3, den.eq_4, den.eq_5, den.eq_6, den.eq_7, den.eq_8, den.eq_9, den.eq_10, den.eq_11, den.eq_12, den.eq_13, den.eq_14, den.eq_15, den.eq_16, den.eq_17, den.eq_18, den.eq_19, den.eq_20, den.eq_21, den.eq_22, den.eq_23, den.eq_24, den.eq_25, den.eq_26, den.eq_27, den.eq_33, den.eq_34, denB, denF, denR, denL, denD, denI, denT, denO, denS.eq_1, denS.eq_2, denS.eq_3, denS.eq_4, denS.eq_5, denS.eq_6, denS.eq_7, denS.eq_8, denS.eq_11, denS.eq_12, denS.eq_13, denS.eq_14, denS.eq_15, denS.eq_16, denS.eq_17, denBl_e, goB_nx, goB_rt, goB_ct, goB_bk, goF, ↓R.bind_bnd, R.bnd_ok, R.bnd_exc, R.bnd_bad, R.of_some, R.calm_ok, hvI, hvT, hvS, rd, rdH, fz, fzH, res, resAll, setV, setVs, bindT.eq_1, bindT.eq_2, bindTs.eq_1, bindTs.eq_2, wipe, Lit.d, List.getElem?_cons_zero, List.getElem?_cons_succ, List.set_cons_zero, List.set_cons_succ, binop, augop, cmpop, truth, indexD, biop, if_true, if_false, Bool.false_eq_true, Bool.true_and, Bool.and_true, Bool.false_and, Bool.and_false, List.length_cons, List.length_nil, Option.bind_some, Option.map_some, decide_true, decide_false, decide_eq_true_eq, Bool.not_true, Bool.not_false, Bool.or_false, Bool.false_or, Bool.or_true, Bool.true_or, reduceIte, beq_iff_eq, look, isKey_ss, isKey_ii, dkeys_s, dkeys_i, dkey0_s, dkey0_i, List.all_cons, List.all_nil, List.any_cons, List.any_nil, putD, hasKey_c, hasKey_n, putVs, List.cons_beq_cons, BEq.rfl, beq_self_eq_true, goR, endE, List.map_cons, List.map_nil, Nat.reduceBEq, Nat.reduceLeDiff, Nat.reduceEqDiff, Nat.reduceAdd, Nat.reduceMul, Nat.reduceLT, Nat.reduceSub, Int.reduceLT, Int.reduceLE, Int.reduceNeg, Int.reduceMul, Int.reduceAdd, Int.reduceSub, Int.reduceEq, Int.reduceBEq, Int.reduceNe, reduceCtorEq, Int.reduceToNat, Int.natAbs_natCast, Bool.or_self, Bool.and_self, line_lit, bne_self_eq_false, Bool.bne_true, Bool.bne_false, Int.reducePow, sm64_eq, smB_eq, isTy, isiOk, isLit, denS_for0, denS_whl, den_lc, mask, fzAll, toldEx, rep_1, rep_2, rep_3, eqOk_NONE, eqv_NONE, dep_int, dep_bl, dep_str, dep_non, eqv_int, eqv_bl, eqv_str2, eqOk_int, eqOk_str, natAbs_lit, List.contains_nil, den_gen, genS_nil, genS_cons, testR, isDic, itemsOf, List.all_cons, List.any_cons, id_eq, cast_lit, List.contains_cons, goes_nx, gives_ok, goes_ct, and_self, decide_not, not_false_eq_true, ne_eq]
  exact law_5 ts h0 hl ht _ ⟨b, _, _, _, _, _, _, _, _, _, _, _, _, _, _, _, _, _, _, rfl⟩
theorem law_1 (ns : List Int) (b : Bx) : ∃ ρ', (denBl GD F false (.c (.set 2 (.bi .tuple (.cons (.lc [3] (.n 3) (.r1 (.bin .add (.k (.int 1)) (.cio 8 1 (.cons (.k (.int 8)) .nil)))) .no (.tup (.cons (.bin .add (.k (.int 1)) (.cio 8 1 (.cons (.k (.int 30)) .nil))) (.cons (.bin .add (.k (.int 1)) (.cio 8 1 (.cons (.k (.int 30)) .nil))) .nil)))) .nil))) (.c (.iff (.isl true (.bl true) (.call 0 (.cons (.v 2) .nil))) (.c (.ret (.k (.bl false))) .e) .e) (.c (.set 4 (.lst .nil)) (.c (.for_ (.t [(.n 5), (.n 6)]) (.ex (.v 2)) (.c (.app 4 (.bin .add (.bin .mul (.lst (.cons (.k .non) .nil)) (.v 5)) (.bin .mul (.lc [3] (.n 3) (.r1 (.v 6)) .no (.bin .add (.v 3) (.k (.int 1)))) (.k (.int 6))))) .e)) (.c (.for_ (.n 7) (.r2 (.k (.int 1)) (.k (.int 101))) (.c (.set 8 (.lst .nil)) (.c (.for_ (.n 9) (.r1 (.bi .len (.cons (.v 2) .nil))) (.c (.ust (.t [(.n 5), (.n 6)]) (.ix (.v 2) (.v 9))) (.c (.app 8 (.ite (.cmp .lt (.v 7) (.v 5)) (.k .non) (.bin .add (.bin .sub (.bin .sub (.v 7) (.v 5)) (.bin .mul (.bin .fdiv (.bin .sub (.v 7) (.v 5)) (.v 6)) (.v 6))) (.k (.int 1))))) (.c (.iff (.and (.cmp .lt (.v 7) (.bi .len (.cons (.ix (.v 4) (.v 9)) .nil))) (.cmp .ne (.ix (.ix (.v 4) (.v 9)) (.v 7)) (.ix (.v 8) (.neg (.k (.int 1)))))) (.c (.ret (.k (.bl false))) .e) .e) (.c (.iff (.nt (.tr (.call 9 (.cons (.call 1 (.cons (.ix (.v 2) (.v 9)) (.cons (.v 7) .nil))) (.cons (.ix (.v 8) (.neg (.k (.int 1)))) .nil))))) (.c (.ret (.k (.bl false))) .e) .e) .e))))) (.c (.iff (.nt (.tr (.call 9 (.cons (.call 2 (.cons (.v 2) (.cons (.v 7) .nil))) (.cons (.v 8) .nil))))) (.c (.ret (.k (.bl false))) .e) .e) .e)))) (.c (.for_ (.n 10) (.ex (.v 2)) (.c (.ust (.t [(.n 5), (.n 6)]) (.v 10)) (.c (.set 11 (.bin .add (.k (.int 1)) (.cio 8 1 (.cons (.k (.int 80)) .nil)))) (.c (.for_ (.n 12) (.r2 (.k (.int 0)) (.bin .add (.v 6) (.k (.int 2)))) (.c (.set 13 (.told 0 [10, 11, 12] (.call 3 (.cons (.v 10) (.cons (.v 12) (.cons (.v 11) .nil)))))) (.c (.iff (.nt (.chn .le .le (.k (.int 1)) (.v 12) (.v 6))) (.c (.iff (.cmp .ne (.v 13) (.tup (.cons (.k (.str [33])) (.cons (.k (.str [110, 111, 110, 101])) .nil)))) (.c (.ret (.k (.bl false))) .e) .e) (.c .cont .e)) .e) (.c (.set 8 (.ix (.lc [7] (.n 7) (.r2 (.bi .max2 (.cons (.v 11) (.cons (.v 5) .nil))) (.bin .add (.bi .max2 (.cons (.v 11) (.cons (.v 5) .nil))) (.v 6))) (.so (.cmp .eq (.bin .mul (.bin .fdiv (.bin .add (.bin .sub (.bin .sub (.v 7) (.v 5)) (.v 12)) (.k (.int 1))) (.v 6)) (.v 6)) (.bin .add (.bin .sub (.bin .sub (.v 7) (.v 5)) (.v 12)) (.k (.int 1))))) (.v 7)) (.k (.int 0)))) (.c (.iff (.or (.nt (.tr (.call 9 (.cons (.v 13) (.cons (.v 8) .nil))))) (.cmp .ne (.call 1 (.cons (.v 10) (.cons (.v 13) .nil))) (.v 12))) (.c (.ret (.k (.bl false))) .e) .e) .e))))) (.c (.set 14 (.bin .add (.k (.int 1000)) (.cio 8 1 (.cons (.k (.int 99999)) .nil)))) (.c (.iff (.nt (.tr (.call 9 (.cons (.call 1 (.cons (.v 10) (.cons (.v 14) .nil))) (.cons (.bin .add (.bin .sub (.bin .sub (.v 14) (.v 5)) (.bin .mul (.bin .fdiv (.bin .sub (.v 14) (.v 5)) (.v 6)) (.v 6))) (.k (.int 1))) .nil))))) (.c (.ret (.k (.bl false))) .e) .e) .e)))))) (.c (.set 15 (.k (.int 1))) (.c (.for_ (.t [(.n 5), (.n 6)]) (.ex (.v 2)) (.c (.set 15 (.bin .fdiv (.bin .mul (.v 15) (.v 6)) (.call 11 (.cons (.v 15) (.cons (.v 6) .nil))))) .e)) (.c (.set 16 (.lc [10] (.n 10) (.ex (.v 2)) .no (.ix (.v 10) (.k (.int 1))))) (.c (.iff (.or (.nt (.tr (.call 9 (.cons (.call 4 (.cons (.bi .list (.cons (.v 16) .nil)) .nil)) (.cons (.v 15) .nil))))) (.or (.nt (.tr (.call 9 (.cons (.call 5 (.cons (.v 2) .nil)) (.cons (.v 15) .nil))))) (.nt (.tr (.call 9 (.cons (.call 4 (.cons (.lst .nil) .nil)) (.cons (.k (.int 1)) .nil))))))) (.c (.ret (.k (.bl false))) .e) .e) (.c (.set 17 (.bin .add (.bi .max (.cons (.lc [10] (.n 10) (.ex (.v 2)) .no (.ix (.v 10) (.k (.int 0)))) .nil)) (.cio 8 1 (.cons (.k (.int 50)) .nil)))) (.c (.iff (.cmp .ne (.call 2 (.cons (.v 2) (.cons (.v 17) .nil))) (.call 2 (.cons (.v 2) (.cons (.bin .add (.v 17) (.v 15)) .nil)))) (.c (.ret (.k (.bl false))) .e) .e) (.c (.set 18 (.tup (.cons (.k (.int 1)) (.cons (.k (.int 1000)) .nil)))) (.c (.set 19 (.lst (.cons (.tup .nil) (.cons (.tup (.cons (.tup (.cons (.k (.int 0)) (.cons (.k (.int 1)) .nil))) .nil)) (.cons (.tup (.cons (.tup (.cons (.k (.int 1)) (.cons (.k (.int 0)) .nil))) .nil)) (.cons (.tup (.cons (.tup (.cons (.k (.int 1001)) (.cons (.k (.int 1)) .nil))) .nil)) (.cons (.tup (.cons (.tup (.cons (.k (.int 1)) (.cons (.k (.int 1001)) .nil))) .nil)) (.cons (.tup (.cons (.tup (.cons (.k (.bl true)) (.cons (.k (.int 1)) .nil))) .nil)) (.cons (.tup (.cons (.tup (.cons (.k (.int 1)) (.cons (.k (.str [49])) .nil))) .nil)) (.cons (.tup (.cons (.tup (.cons (.k (.int 1)) .nil)) .nil)) (.cons (.tup (.cons (.tup (.cons (.k (.int 1)) (.cons (.k (.int 1)) (.cons (.k (.int 1)) .nil)))) .nil)) (.cons (.tup (.cons (.lst (.cons (.k (.int 1)) (.cons (.k (.int 1)) .nil))) .nil)) (.cons (.lst (.cons (.v 18) .nil)) (.cons (.bin .mul (.tup (.cons (.v 18) .nil)) (.k (.int 9))) (.cons (.k .non) (.cons (.v 18) (.cons (.tup (.cons (.v 18) (.cons (.k .non) .nil))) .nil))))))))))))))))) (.c (.ret (.and (.isl false (.bl true) (.call 0 (.cons (.bin .mul (.tup (.cons (.v 18) .nil)) (.k (.int 8))) .nil))) (.and (.isl false (.bl true) (.call 0 (.cons (.tup (.cons (.tup (.cons (.k (.int 1000)) (.cons (.k (.int 1)) .nil))) .nil)) .nil))) (.bi .all (.cons (.lc [20] (.n 20) (.ex (.v 19)) .no (.isl false (.bl false) (.call 0 (.cons (.v 20) .nil)))) .nil))))) .e)))))))))))))))) [some (.imm (.scr ns)), some (.own b.d), none, none, none, none, none, none, none, none, none, none, none, none, none, none, none, none, none, none, none] = .ok (.rt false (.bl true) ρ') := by
  have n1 := nx_ok b 8 (by decide)
  have b1 := b.v_nn 8 (by decide)
  have b2 := b.v_lt 8 (by decide)
  obtain ⟨ts, b', el, q1, q2⟩ := lc_box GD F [3] (.n 3) .no (.tup (.cons (.bin .add (.k (.int 1)) (.cio 8 1 (.cons (.k (.int 30)) .nil))) (.cons (.bin .add (.k (.int 1)) (.cio 8 1 (.cons (.k (.int 30)) .nil))) .nil))) [some (.imm (.scr ns)), some (.own b.nx.d), none, none, none, none, none, none, none, none, none, none, none, none, none, none, none, none, none, none, none] (rng 0 (1 + b.v 8) 1)
    (fun b : Bx => ([some (.imm (.scr ns)), some (.own b.d), none, none, none, none, none, none, none, none, none, none, none, none, none, none, none, none, none, none, none] : Env)) pr okS b.nx (by rw [rng_len, line_lit]; omega) rfl (by
      intro d b hd
      obtain ⟨k, _, _, rfl⟩ := (rng_mem _ _ _).mp hd
      have o1 := nx_ok b 30 (by decide)
      have o2 := nx_ok b.nx 30 (by decide)
      have v1 := b.v_nn 30 (by decide)
      have v2 := b.v_lt 30 (by decide)
      have v3 := b.nx.v_nn 30 (by decide)
      have v4 := b.nx.v_lt 30 (by decide)
      simp -implicitDefEqProofs only [lcT, o1, o2, den.eq_1, den.eq_2, den.eq_3, den.eq_4, den.eq_5, den.eq_6, den.eq_7, den.eq_8, den.eq_9, den.eq_10, den.eq_11, den.eq_12, den.eq_13, den.eq_14, den.eq_15, den.eq_16, den.eq_17, den.eq_18, den.eq_19, den.eq_20, den.eq_21, den.eq_22, den.eq_23, den.eq_24, den.eq_25, den.eq_26, den.eq_27, den.eq_33, den.eq_34, denB, denF, denR, denL, denD, denI, denT, denO, denS.eq_1, denS.eq_2, denS.eq_3, denS.eq_4, denS.eq_5, denS.eq_6, denS.eq_7, denS.eq_8, denS.eq_11, denS.eq_12, denS.eq_13, denS.eq_14, denS.eq_15, denS.eq_16, denS.eq_17, denBl_c, denBl_e, goB_nx, goB_rt, goB_ct, goB_bk, goF, ↓R.bind_bnd, R.bnd_ok, R.bnd_exc, R.bnd_bad, R.of_some, R.calm_ok, hvI, hvT, hvS, rd, rdH, fz, fzH, res, resAll, setV, setVs, bindT.eq_1, bindT.eq_2, bindTs.eq_1, bindTs.eq_2, wipe, Lit.d, List.getElem?_cons_zero, List.getElem?_cons_succ, List.set_cons_zero, List.set_cons_succ, binop, augop, cmpop, truth, indexD, biop, if_true, if_false, Bool.false_eq_true, Bool.true_and, Bool.and_true, Bool.false_and, Bool.and_false, List.length_cons, List.length_nil, Option.bind_some, Option.map_some, decide_true, decide_false, decide_eq_true_eq, Bool.not_true, Bool.not_false, Bool.or_false, Bool.false_or, Bool.or_true, Bool.true_or, reduceIte, beq_iff_eq, look, isKey_ss, isKey_ii, dkeys_s, dkeys_i, dkey0_s, dkey0_i, List.all_cons, List.all_nil, List.any_cons, List.any_nil, putD, hasKey_c, hasKey_n, putVs, List.cons_beq_cons, BEq.rfl, beq_self_eq_true, goR, endE, List.map_cons, List.map_nil, Nat.reduceBEq, Nat.reduceLeDiff, Nat.reduceEqDiff, Nat.reduceAdd, Nat.reduceMul, Nat.reduceLT, Nat.reduceSub, Int.reduceLT, Int.reduceLE, Int.reduceNeg, Int.reduceMul, Int.reduceAdd, Int.reduceSub, Int.reduceEq, Int.reduceBEq, Int.reduceNe, reduceCtorEq, Int.reduceToNat, Int.natAbs_natCast, Bool.or_self, Bool.and_self, line_lit, bne_self_eq_false, Bool.bne_true, Bool.bne_false, Int.reducePow, sm64_eq, smB_eq, isTy, isiOk, isLit, denS_for0, denS_whl, den_lc, mask, fzAll, toldEx, rep_1, rep_2, rep_3, eqOk_NONE, eqv_NONE, dep_int, dep_bl, dep_str, dep_non, eqv_int, eqv_bl, eqv_str2, eqOk_int, eqOk_str, natAbs_lit, List.contains_nil, den_gen, genS_nil, genS_cons, testR, isDic, itemsOf, List.all_cons, List.any_cons, id_eq, cast_lit, List.contains_cons, goes_nx, gives_ok, goes_ct, and_self, decide_not, not_false_eq_true, ne_eq]
      rw [givesB_ok]
      exact ⟨(1 + b.v 30, 1 + b.nx.v 30), b.nx.nx, rfl, ⟨by simp only; omega, by simp only; omega, by simp only; omega, by simp only; omega⟩, rfl⟩)
  change _ = R.ok (_, ([some (.imm (.scr ns)), some (.own b'.d), none, none, none, none, none, none, none, none, none, none, none, none, none, none, none, none, none, none, none] : Env)) at el
  rw [rng_len] at q1
  have i1 : 1 + b.v 8 ≤ 16777216 := by omega
  have i2 : (-16777216 : Int) ≤ 1 + b.v 8 := by omega
  have g := good_ok ts (by omega) (by omega) (fun p hp => (q2 p hp).t)
  rw [denBl_c]
  simp -implicitDefEqProofs only [n1, el, i1, i2, den.eq_1, den.eq_2, den.eq_3, den.eq_4, den.eq_5, den.eq_6, den.eq_7, den.eq_8, den.eq_9, den.eq_10, den.eq_11, den.eq_12, den.eq_13, den.eq_14, den.eq_15, den.eq_16, den.eq_17, den.eq_18, den.eq_19, den.eq_20, den.eq_21, den.eq_22, den.eq_23, den.eq_24, den.eq_25, den.eq_26, den.eq_27, den.eq_33, den.eq_34, denB, denF, denR, denL, denD, denI, denT, denO, denS.eq_1, denS.eq_2, denS.eq_3, denS.eq_4, denS.eq_5, denS.eq_6, denS.eq_7, denS.eq_8, denS.eq_11, denS.eq_12, denS.eq_13, denS.eq_14, denS.eq_15, denS.eq_16, denS.eq_17, denBl_e, goB_nx, goB_rt, goB_ct, goB_bk, goF, ↓R.bind_bnd, R.bnd_ok, R.bnd_exc, R.bnd_bad, R.of_some, R.calm_ok, hvI, hvT, hvS, rd, rdH, fz, fzH, res, resAll, setV, setVs, bindT.eq_1, bindT.eq_2, bindTs.eq_1, bindTs.eq_2, wipe, Lit.d, List.getElem?_cons_zero, List.getElem?_cons_succ, List.set_cons_zero, List.set_cons_succ, binop, augop, cmpop, truth, indexD, biop, if_true, if_false, Bool.false_eq_true, Bool.true_and, Bool.and_true, Bool.false_and, Bool.and_false, List.length_cons, List.length_nil, Option.bind_some, Option.map_some, decide_true, decide_false, decide_eq_true_eq, Bool.not_true, Bool.not_false, Bool.or_false, Bool.false_or, Bool.or_true, Bool.true_or, reduceIte, beq_iff_eq, look, isKey_ss, isKey_ii, dkeys_s, dkeys_i, dkey0_s, dkey0_i, List.all_cons, List.all_nil, List.any_cons, List.any_nil, putD, hasKey_c, hasKey_n, putVs, List.cons_beq_cons, BEq.rfl, beq_self_eq_true, goR, endE, List.map_cons, List.map_nil, Nat.reduceBEq, Nat.reduceLeDiff, Nat.reduceEqDiff, Nat.reduceAdd, Nat.reduceMul, Nat.reduceLT, Nat.reduceSub, Int.reduceLT, Int.reduceLE, Int.reduceNeg, Int.reduceMul, Int.reduceAdd, Int.reduceSub, Int.reduceEq, Int.reduceBEq, Int.reduceNe, reduceCtorEq, Int.reduceToNat, Int.natAbs_natCast, Bool.or_self, Bool.and_self, line_lit, bne_self_eq_false, Bool.bne_true, Bool.bne_false, Int.reducePow, sm64_eq, smB_eq, isTy, isiOk, isLit, denS_for0, denS_whl, den_lc, mask, fzAll, toldEx, rep_1, rep_2, rep_3, eqOk_NONE, eqv_NONE, dep_int, dep_bl, dep_str, dep_non, eqv_int, eqv_bl, eqv_str2, eqOk_int, eqOk_str, natAbs_lit, List.contains_nil, den_gen, genS_nil, genS_cons, testR, isDic, itemsOf, List.all_cons, List.any_cons, id_eq, cast_lit, List.contains_cons, goes_nx, gives_ok, goes_ct, and_self, decide_not, not_false_eq_true, ne_eq]
  rw [denBl_c]
  simp -implicitDefEqProofs only [g, den.eq_1, den.eq_2, den.eq_3, den.eq_4, den.eq_5, den.eq_6, den.eq_7, den.eq_8, den.eq_9, den.eq_10, den.eq_11, den.eq_12, den.eq_13, den.eq_14, den.eq_15, den.eq_16, den.eq_17, den.eq_18, den.eq_19, den.eq_20, den.eq_21, den.eq_22, den.eq_23, den.eq_24, den.eq_25, den.eq_26, den.eq_27, den.eq_33, den.eq_34, denB, denF, denR, denL, denD, denI, denT, denO, denS.eq_1, denS.eq_2, denS.eq_3, denS.eq_4, denS.eq_5, denS.eq_6, denS.eq_7, denS.eq_8, denS.eq_11, denS.eq_12, denS.eq_13, denS.eq_14, denS.eq_15, denS.eq_16, denS.eq_17, denBl_e, goB_nx, goB_rt, goB_ct, goB_bk, goF, ↓R.bind_bnd, R.bnd_ok, R.bnd_exc, R.bnd_bad, R.of_some, R.calm_ok, hvI, hvT, hvS, rd, rdH, fz, fzH, res, resAll, setV, setVs, bindT.eq_1, bindT.eq_2, bindTs.eq_1, bindTs.eq_2, wipe, Lit.d, List.getElem?_cons_zero, List.getElem?_cons_succ, List.set_cons_zero, List.set_cons_succ, binop, augop, cmpop, truth, indexD, biop, if_true, if_false, Bool.false_eq_true, Bool.true_and, Bool.and_true, Bool.false_and, Bool.and_false, List.length_cons, List.length_nil, Option.bind_some, Option.map_some, decide_true, decide_false, decide_eq_true_eq, Bool.not_true, Bool.not_false, Bool.or_false, Bool.false_or, Bool.or_true, Bool.true_or, reduceIte, beq_iff_eq, look, isKey_ss, isKey_ii, dkeys_s, dkeys_i, dkey0_s, dkey0_i, List.all_cons, List.all_nil, List.any_cons, List.any_nil, putD, hasKey_c, hasKey_n, putVs, List.cons_beq_cons, BEq.rfl, beq_self_eq_true, goR, endE, List.map_cons, List.map_nil, Nat.reduceBEq, Nat.reduceLeDiff, Nat.reduceEqDiff, Nat.reduceAdd, Nat.reduceMul, Nat.reduceLT, Nat.reduceSub, Int.reduceLT, Int.reduceLE, Int.reduceNeg, Int.reduceMul, Int.reduceAdd, Int.reduceSub, Int.reduceEq, Int.reduceBEq, Int.reduceNe, reduceCtorEq, Int.reduceToNat, Int.natAbs_natCast, Bool.or_self, Bool.and_self, line_lit, bne_self_eq_false, Bool.bne_true, Bool.bne_false, Int.reducePow, sm64_eq, smB_eq, isTy, isiOk, isLit, denS_for0, denS_whl, den_lc, mask, fzAll, toldEx, rep_1, rep_2, rep_3, eqOk_NONE, eqv_NONE, dep_int, dep_bl, dep_str, dep_non, eqv_int, eqv_bl, eqv_str2, eqOk_int, eqOk_str, natAbs_lit, List.contains_nil, den_gen, genS_nil, genS_cons, testR, isDic, itemsOf, List.all_cons, List.any_cons, id_eq, cast_lit, List.contains_cons, goes_nx, gives_ok, goes_ct, and_self, decide_not, not_false_eq_true, ne_eq]
  exact law_3 ts b' (by omega) (by omega) q2 ..
theorem law_all (ns : List Int) (hn : ns.length ≤ 63) : ∃ x, run GD defs 20 12 [.scr ns] = .ok ((false, .bl true), x) := by
  obtain ⟨b, e⟩ := box_ok GD (defs := defs) (i := 6) (j := 7) rfl rfl 17 ns hn
  have e' : F 7 [.scr ns] = .ok ((true, b.d), .non) := e
  obtain ⟨ρ', h⟩ := law_1 ns b
  refine ⟨.non, ?_⟩
  rw [run_s GD (f := c_law) rfl, runF_def _ _ _ _ ⟨rfl, by decide⟩]
  change ((denBl GD F false c_law.body _).bind _) = _
  unfold c_law
  rw [denBl_c]
  simp -implicitDefEqProofs only [startE, List.replicate, List.cons_append, List.nil_append, e', den.eq_1, den.eq_2, den.eq_3, den.eq_4, den.eq_5, den.eq_6, den.eq_7, den.eq_8, den.eq_9, den.eq_10, den.eq_11, den.eq_12, den.eq_13, den.eq_14, den.eq_15, den.eq_16, den.eq_17, den.eq_18, den.eq_19, den.eq_20, den.eq_21, den.eq_22, den.eq_23, den.eq_24, den.eq_25, den.eq_26, den.eq_27, den.eq_33, den.eq_34, denB, denF, denR, denL, denD, denI, denT, denO, denS.eq_1, denS.eq_2, denS.eq_3, denS.eq_4, denS.eq_5, denS.eq_6, denS.eq_7, denS.eq_8, denS.eq_11, denS.eq_12, denS.eq_13, denS.eq_14, denS.eq_15, denS.eq_16, denS.eq_17, denBl_e, goB_nx, goB_rt, goB_ct, goB_bk, goF, ↓R.bind_bnd, R.bnd_ok, R.bnd_exc, R.bnd_bad, R.of_some, R.calm_ok, hvI, hvT, hvS, rd, rdH, fz, fzH, res, resAll, setV, setVs, bindT.eq_1, bindT.eq_2, bindTs.eq_1, bindTs.eq_2, wipe, Lit.d, List.getElem?_cons_zero, List.getElem?_cons_succ, List.set_cons_zero, List.set_cons_succ, binop, augop, cmpop, truth, indexD, biop, if_true, if_false, Bool.false_eq_true, Bool.true_and, Bool.and_true, Bool.false_and, Bool.and_false, List.length_cons, List.length_nil, Option.bind_some, Option.map_some, decide_true, decide_false, decide_eq_true_eq, Bool.not_true, Bool.not_false, Bool.or_false, Bool.false_or, Bool.or_true, Bool.true_or, reduceIte, beq_iff_eq, look, isKey_ss, isKey_ii, dkeys_s, dkeys_i, dkey0_s, dkey0_i, List.all_cons, List.all_nil, List.any_cons, List.any_nil, putD, hasKey_c, hasKey_n, putVs, List.cons_beq_cons, BEq.rfl, beq_self_eq_true, goR, endE, List.map_cons, List.map_nil, Nat.reduceBEq, Nat.reduceLeDiff, Nat.reduceEqDiff, Nat.reduceAdd, Nat.reduceMul, Nat.reduceLT, Nat.reduceSub, Int.reduceLT, Int.reduceLE, Int.reduceNeg, Int.reduceMul, Int.reduceAdd, Int.reduceSub, Int.reduceEq, Int.reduceBEq, Int.reduceNe, reduceCtorEq, Int.reduceToNat, Int.natAbs_natCast, Bool.or_self, Bool.and_self, line_lit, bne_self_eq_false, Bool.bne_true, Bool.bne_false, Int.reducePow, sm64_eq, smB_eq, isTy, isiOk, isLit, denS_for0, denS_whl, den_lc, mask, fzAll, toldEx, rep_1, rep_2, rep_3, eqOk_NONE, eqv_NONE, dep_int, dep_bl, dep_str, dep_non, eqv_int, eqv_bl, eqv_str2, eqOk_int, eqOk_str, natAbs_lit, List.contains_nil, den_gen, genS_nil, genS_cons, testR, isDic, itemsOf, List.all_cons, List.any_cons, id_eq, cast_lit, List.contains_cons, goes_nx, gives_ok, goes_ct, and_self, decide_not, not_false_eq_true, ne_eq]
  rw [h]
  rfl
end Kn.L

end

theorem PySem.Challenge.cw_knittold_k70_tracks_row_by_row_holds : PySem.Challenge.rw_knittold_k70_tracks_row_by_row.Holds := by
  exact Kn.L.holds fun ns h h2 => Kn.L.law_all ns h
