import PyProof.Rows.All
import Wide.All
import OpenK.AllK
import Wide.FinOn
import HandS.ForMost
import HandS.Exc
import HandS.TryOnly
import HandS.ExcOwn
import HandS.ExcIs
import HandS.WordsExc
import HandS.IsInst
import HandS.Wide
import HandS.TupAny
import HandS.TupMul
import HandS.TupLe
import HandS.Flow
import HandS.Deep
import HandS.DictTup
import HandS.Zip
import KE.SortData
import KE.SortKeyHeap
import KE.DataEq
import KE.DataAny
import KE.DataCmp
import KE.DataMinMax
import KE.DatumIndex
import PyProof.SumWalkG
import PyProof.ReprReads
import PyProof.ReprRoads
import KE.GoesMore
import KE.GoesZip
import KE.GoesEnum
import HandS.Codes
import PySem.Challenge.RW_leastlots_k50_what_lots_cost
set_option Elab.async false
set_option linter.all false
set_option maxRecDepth 100000
/-! Ev0: a clean syntax and its evaluator over plain data. Lists that a def builds are owned by a slot; all else is shared and never changes. -/
namespace Ev
open PySem

abbrev D := PyData
/-- what a slot holds: nothing known, a shared value, an owned list or dict, one that is walked just now -/
inductive Sl where
  | no | sh (d : D) | ow (d : D) | lk (d : D)
abbrev Sts := List Sl
inductive Rs (α : Type) where
  | ok (a : α) (S : Sts) | ex (c : Nat) (S : Sts) | bad

inductive BOp where
  | add | sub | mul | fdiv | mod | pow
  deriving DecidableEq
inductive COp where
  | lt | le | gt | ge | eq | ne | isin | notin | is | isnot
  deriving DecidableEq
/-- built-ins by name -/
inductive Bi where
  | len | sum | all | any | min | max | abs | int | str | tuple | list | sorted | repr | dict | set | bool
  deriving DecidableEq
/-- methods that only read -/
inductive Me where
  | get | join | split | index
  deriving DecidableEq
/-- methods that change a list at a slot -/
inductive Mu where
  | append | reverse | clear | pop
  deriving DecidableEq
inductive Ty where
  | int | bool | str | tuple | list | none
  | exc (c : Nat)
  | valueError
  deriving DecidableEq
inductive Tg where
  | one (i : Nat) | many (is : List Nat)

mutual
inductive CE where
  | var (i : Nat)
  | cst (d : D)
  | glob (x : Nat)
  | neg (a : CE)
  | not (a : CE)
  | and (a b : CE)
  | or (a b : CE)
  | ife (c a b : CE)
  | bin (o : BOp) (a b : CE)
  | cmp (o : COp) (a b : CE)
  | chain (o p : COp) (a b c : CE)
  | tup (es : CEs)
  | lst (es : CEs)
  | dct
  | dct1 (k v : CE)
  | mov (i : Nat)
  | comp (t : Tg) (it : CI) (cs : CEs) (e : CE)
  | ix (a i : CE)
  | sl (a : CE) (lo hi : CEs)
  | rev (a : CE)
  | stp (a : CE) (lo : CEs) (st : CE)
  | call (f : Nat) (as : CEs)
  | bi (b : Bi) (as : CEs)
  | bikey (a : CE)
  | isi (a : CE) (t : Ty)
  | meth (m : Me) (o : CE) (as : CEs)
  | mutv (m : Mu) (i : Nat) (as : CEs)
inductive CEs where
  | nil | cons (e : CE) (es : CEs)
inductive CI where
  | seq (e : CE)
  | range1 (a : CE)
  | range2 (a b : CE)
  | zip (a b : CE)
  | enum (a : CE)
  | items (a : CE)
end
mutual
inductive CS where
  | set (t : Tg) (e : CE)
  | par (is : List Nat) (es : CEs)
  | setix (i : Nat) (k e : CE)
  | expr (e : CE)
  | ife (c : CE) (a b : CSs)
  | loop (t : Tg) (it : CI) (b : CSs)
  | whl (n : Nat) (c : CE) (b : CSs)
  | ret (e : CE)
  | retn
  | raise (c : Nat)
  | pass
  | tryx (b : CSs) (c : Nat) (x v : Nat)
  | tryo (b : CSs) (c : Nat) (s : CSs)
inductive CSs where
  | nil | cons (s : CS) (r : CSs)
end

/-! ### plain data -/
def szl : Nat := 16777216
/-- the script, an exception of the class c, a module's tuple -/
def scrD (ns : List Int) : D := .dict [(.none, .list (ns.map .int))]
def excD (c : Nat) : D := .dict [(.none, .int c)]
def ktpD (ds : List D) : D := .dict [(.none, .tuple ds)]
def isDct : List (D × D) → Bool
  | (.none, _) :: _ => false
  | _ => true
mutual
/-- data without dicts, to a depth -/
def plain : Nat → D → Bool
  | _, .none => true
  | _, .bool _ => true
  | _, .int _ => true
  | _, .str _ => true
  | 0, .list _ => false
  | 0, .tuple _ => false
  | k + 1, .list ds => plains k ds
  | k + 1, .tuple ds => plains k ds
  | _, .dict _ => false
def plains : Nat → List D → Bool
  | _, [] => true
  | k, d :: ds => plain k d && plains k ds
end
def tru : D → Option Bool
  | .none => some false
  | .bool b => some b
  | .int i => some (i != 0)
  | .str x => some (x.length != 0)
  | .list ds => some (!ds.isEmpty)
  | .tuple ds => some (!ds.isEmpty)
  | .dict _ => none
def mulOk (i j : Int) : Bool := decide (i.natAbs < 2 ^ 64) || decide (j.natAbs < 2 ^ 64) || decide (i.natAbs.log2 + j.natAbs.log2 < 1000000)
def smallI (n : Int) : Bool := decide (-(2 ^ 62) ≤ n) && decide (n < 2 ^ 62)
def divOk (j : Int) : Bool := (j != 0) && (decide (j.natAbs < 1073741824) || (decide (0 < j) && decide (j.natAbs.log2 < 9000)))
def powOk (i j : Int) : Bool := decide (0 ≤ j) && decide (j ≤ 1000000) && decide (i.natAbs < 2 ^ 64)
/-- k times a list -/
def repD (k : Int) (ds : List D) : List D := (List.replicate k.toNat ds).flatten
def binD : BOp → D → D → Option (Bool × D)
  | .add, .int i, .int j => some (false, .int (i + j))
  | .add, .str x, .str y => if x.length + y.length ≤ szl then some (false, .str (x ++ y)) else none
  | .add, .tuple xs, .tuple ys => if xs.length + ys.length ≤ szl then some (false, .tuple (xs ++ ys)) else none
  | .add, .list xs, .list ys => if xs.length + ys.length ≤ szl then some (true, .list (xs ++ ys)) else none
  | .sub, .int i, .int j => some (false, .int (i - j))
  | .mul, .int i, .int j => if mulOk i j then some (false, .int (i * j)) else none
  | .mul, .list xs, .int k => if -(2 ^ 62) ≤ k ∧ k < 2 ^ 62 ∧ xs.length * k.toNat ≤ szl then some (true, .list (repD k xs)) else none
  | .mul, .tuple xs, .int k => if 2 ≤ k ∧ k ≤ 1000 ∧ 0 < xs.length ∧ xs.length ≤ 1000 ∧ xs.length * k.toNat ≤ szl then some (false, .tuple (repD k xs)) else none
  | .fdiv, .int i, .int j => if divOk j then some (false, .int (i.fdiv j)) else none
  | .mod, .int i, .int j => if j ≠ 0 then some (false, .int (i.fmod j)) else none
  | .pow, .int i, .int j => if powOk i j then some (false, .int (i ^ j.toNat)) else none
  | _, _, _ => none
def inDct (d : D) : List (D × D) → Bool
  | [] => false
  | (k, _) :: r => PyData.eqv k d || inDct d r
def getDct (d : D) : List (D × D) → Option D
  | [] => none
  | (k, v) :: r => if PyData.eqv k d = true then some v else getDct d r
def putDct (d v : D) : List (D × D) → List (D × D)
  | [] => [(d, v)]
  | (k, u) :: r => if PyData.eqv k d = true then (k, v) :: r else (k, u) :: putDct d v r
/-- keys: numbers, texts, tuples of these -/
def flatKey : D → Bool
  | .int _ => true
  | .str _ => true
  | _ => false
def keyOk : D → Bool
  | .int _ => true
  | .str _ => true
  | .tuple ds => ds.all flatKey
  | _ => false
def notNone : D → Bool
  | .none => false
  | _ => true
/-- may be compared by order -/
def ordOk (d e : D) : Bool := PySem.W.alike d e && notNone d && plain 60 d && plain 60 e
def cmpD : COp → D → D → Option Bool
  | .lt, x, y => match x, y with
    | .int i, .int j => some (decide (i < j))
    | x, y => if ordOk x y then some (PySem.W.dataLt x y) else none
  | .le, x, y => match x, y with
    | .int i, .int j => some (decide (i ≤ j))
    | x, y => if ordOk x y then some (!PySem.W.dataLt y x) else none
  | .gt, x, y => match x, y with
    | .int i, .int j => some (decide (j < i))
    | x, y => if ordOk x y then some (PySem.W.dataLt y x) else none
  | .ge, x, y => match x, y with
    | .int i, .int j => some (decide (j ≤ i))
    | x, y => if ordOk x y then some (!PySem.W.dataLt x y) else none
  | .eq, x, y => if plain 60 x && plain 60 y then some (PyData.eqv x y) else none
  | .ne, x, y => if plain 60 x && plain 60 y then some (!PyData.eqv x y) else none
  | .isin, x, y => match y with
    | .list ds => if plain 60 x && plains 60 ds then some (ds.any fun z => PyData.eqv z x) else none
    | .tuple ds => if plain 60 x && plains 60 ds then some (ds.any fun z => PyData.eqv z x) else none
    | _ => none
  | .notin, x, y => match y with
    | .list ds => if plain 60 x && plains 60 ds then some (!ds.any fun z => PyData.eqv z x) else none
    | .tuple ds => if plain 60 x && plains 60 ds then some (!ds.any fun z => PyData.eqv z x) else none
    | _ => none
  | .is, x, y => match y with
    | .none => some (!notNone x)
    | .bool b => match x with
      | .bool a => some (decide (a = b))
      | _ => none
    | _ => none
  | .isnot, x, y => match y with
    | .none => some (notNone x)
    | .bool b => match x with
      | .bool a => some (!decide (a = b))
      | _ => none
    | _ => none
/-- the place of an index, of either sign -/
def ixD (n : Nat) (i : Int) : Option Nat := if 0 ≤ i then (if i < n then some i.toNat else none) else if -(n : Int) ≤ i then some (i + n).toNat else none
def getIx (d k : D) : Option D := match d, k with
  | .list ds, .int i => (ixD ds.length i).bind fun j => ds[j]?
  | .tuple ds, .int i => (ixD ds.length i).bind fun j => ds[j]?
  | .dict [(.none, .list ds)], .int i => (ixD ds.length i).bind fun j => ds[j]?
  | .dict kvs, k => if isDct kvs && keyOk k then getDct k kvs else none
  | _, _ => none
def cutD (ds : List D) (lo hi : Option Int) : List D := (ds.drop (HT.sIx ds.length 0 lo)).take (HT.sIx ds.length ds.length hi - HT.sIx ds.length 0 lo)
def cutOf (d : D) (lo hi : Option Int) : Option (Bool × D) := match d with
  | .list ds => some (true, .list (cutD ds lo hi))
  | .tuple ds => some (false, .tuple (cutD ds lo hi))
  | _ => none
def intsOf : List D → Option (List Int)
  | [] => some []
  | .int i :: r => (intsOf r).map (i :: ·)
  | _ => none
/-- all of one kind, none None -/
def alikeB (ds : List D) : Bool := (ds.all fun a => ds.all fun b => PySem.W.alike a b) && ds.all notNone
def itemsOf : D → Option (List D)
  | .list ds => some ds
  | .tuple ds => some ds
  | _ => none
def onlyL : D → Option (List D)
  | .list ds => some ds
  | _ => none
def isSeqD : D → Bool
  | .list _ => true
  | .tuple _ => true
  | _ => false
def biD : Bi → List D → Option (Bool × D)
  | .len, [.list ds] => some (false, .int ds.length)
  | .len, [.tuple ds] => some (false, .int ds.length)
  | .len, [.dict [(.none, .list ds)]] => some (false, .int ds.length)
  | .len, [.str x] => some (false, .int x.length)
  | .sum, [d] => ((itemsOf d).bind intsOf).map fun ns => (false, .int ns.sum)
  | .all, [d] => match itemsOf d with
    | some ds => if plains 60 ds then some (false, .bool (ds.all PyData.truthy)) else none
    | _ => none
  | .any, [d] => match itemsOf d with
    | some ds => if plains 60 ds then some (false, .bool (ds.any PyData.truthy)) else none
    | _ => none
  | .min, [d] => match itemsOf d with
    | some (x :: xs) => if alikeB (x :: xs) && plains 60 (x :: xs) then some (false, PySem.W.minD x xs) else none
    | _ => none
  | .max, [d] => match itemsOf d with
    | some (x :: xs) => if alikeB (x :: xs) && plains 60 (x :: xs) then some (false, PySem.W.maxD x xs) else none
    | _ => none
  | .min, [.int i, .int j] => some (false, .int (if j < i then j else i))
  | .max, [.int i, .int j] => some (false, .int (if j > i then j else i))
  | .abs, [.int i] => some (false, .int (if i < 0 then -i else i))
  | .int, [.int i] => some (false, .int i)
  | .int, [.bool b] => some (false, .int (if b then 1 else 0))
  | .tuple, [.list ds] => some (false, .tuple ds)
  | .tuple, [.tuple ds] => some (false, .tuple ds)
  | .list, [.list ds] => some (true, .list ds)
  | .list, [.tuple ds] => some (true, .list ds)
  | .repr, [d] => if plain 60 d && d.showable && decide (d.shown.length ≤ szl) && isSeqD d then some (false, .str d.shown) else none
  | _, _ => none
def isTy : Ty → D → Option Bool
  | .int, .int _ => some true
  | .int, .bool _ => some true
  | .int, .str _ => some false
  | .int, .none => some false
  | .int, .list _ => some false
  | .int, .tuple _ => some false
  | .bool, .int _ => some false
  | .bool, .bool _ => some true
  | .bool, .str _ => some false
  | .bool, .none => some false
  | .bool, .list _ => some false
  | .bool, .tuple _ => some false
  | .str, .int _ => some false
  | .str, .bool _ => some false
  | .str, .str _ => some true
  | .str, .none => some false
  | .str, .list _ => some false
  | .str, .tuple _ => some false
  | .tuple, .int _ => some false
  | .tuple, .bool _ => some false
  | .tuple, .str _ => some false
  | .tuple, .none => some false
  | .tuple, .list _ => some false
  | .tuple, .tuple _ => some true
  | .list, .int _ => some false
  | .list, .bool _ => some false
  | .list, .str _ => some false
  | .list, .none => some false
  | .list, .list _ => some true
  | .list, .tuple _ => some false
  | _, _ => none

/-! ### slots -/
def rdS (S : Sts) (i : Nat) : Option D := match S[i]? with
  | some (.sh d) => some d
  | some (.ow d) => some d
  | some (.lk d) => some d
  | _ => none
/-- a name read for good: an owned thing is shared from then on -/
def valS (S : Sts) (i : Nat) : Rs (Bool × D) := match S[i]? with
  | some (.sh d) => .ok (false, d) S
  | some (.ow d) => .ok (false, d) (S.set i (.sh d))
  | _ => .bad
/-- an operand: a name is read as it stands -/
def opE (a : CE) (r : Sts → Rs (Bool × D)) (S : Sts) : Rs (Bool × D) := match a with
  | .var i => match rdS S i with
    | some d => .ok (false, d) S
    | none => .bad
  | _ => r S
/-- an operand's value where it is used (a name: what it holds then) -/
def late (a : CE) (d : D) (S : Sts) : Option D := match a with
  | .var i => rdS S i
  | _ => some d
def lates : CEs → List D → Sts → Option (List D)
  | .nil, [], _ => some []
  | .cons a as, d :: ds, S => match late a d S, lates as ds S with
    | some x, some xs => some (x :: xs)
    | _, _ => none
  | _, _, _ => none
def late1 {α : Type} (a : CE) (d : D) (S : Sts) (f : D → Option α) : Option α := match late a d S with
  | some x => f x
  | none => none
def late2 {α : Type} (a b : CE) (d e : D) (S : Sts) (f : D → D → Option α) : Option α := match late a d S, late b e S with
  | some x, some y => f x y
  | _, _ => none
/-- a slot that may be stored to -/
def nlk : Sl → Bool
  | .lk _ => false
  | _ => true
def canSt (S : Sts) (i : Nat) : Bool := match S[i]? with
  | some s => nlk s
  | none => false
def putS (pr : List Nat) (S : Sts) (i : Nat) (s : Sl) : Option Sts := if canSt S i && !pr.contains i then some (S.set i s) else none
def slOf (fr : Bool) (d : D) : Sl := if fr then .ow d else .sh d
def putsS (pr : List Nat) : Sts → List Nat → List D → Option Sts
  | S, [], [] => some S
  | S, i :: is, d :: ds => (putS pr S i (.sh d)).bind fun S' => putsS pr S' is ds
  | _, _, _ => none
def storeT (pr : List Nat) (S : Sts) (t : Tg) (fr : Bool) (d : D) : Option Sts := match t with
  | .one i => putS pr S i (slOf fr d)
  | .many is => match d with
    | .tuple ds => putsS pr S is ds
    | _ => none
def Tg.slots : Tg → List Nat
  | .one i => [i]
  | .many is => is
mutual
/-- equal data -/
def eqD : D → D → Bool
  | .none, .none => true
  | .bool a, .bool b => a == b
  | .int i, .int j => decide (i = j)
  | .str x, .str y => decide (x = y)
  | .list xs, .list ys => eqDs xs ys
  | .tuple xs, .tuple ys => eqDs xs ys
  | .dict xs, .dict ys => eqDp xs ys
  | _, _ => false
def eqDs : List D → List D → Bool
  | [], [] => true
  | x :: xs, y :: ys => eqD x y && eqDs xs ys
  | _, _ => false
def eqDp : List (D × D) → List (D × D) → Bool
  | [], [] => true
  | (a, b) :: xs, (c, d) :: ys => eqD a c && eqD b d && eqDp xs ys
  | _, _ => false
end
/-- what is walked stays as it is: the slot, what it holds, whether it is unlocked behind the walk -/
abbrev Lks := List (Nat × D × Bool)
def lockS (a : CE) (S : Sts) : Sts × Lks := match a with
  | .var i => match S[i]? with
    | some (.ow (.list ds)) => (S.set i (.lk (.list ds)), [(i, .list ds, true)])
    | some (.lk d) => (S, [(i, d, false)])
    | _ => (S, [])
  | _ => (S, [])
def lkOk (S : Sts) : Lks → Bool
  | [] => true
  | (i, d, _) :: r => (match S[i]? with
    | some (.lk e) => eqD e d
    | _ => false) && lkOk S r
def unlockS (S : Sts) : Lks → Sts
  | [] => S
  | (i, _, b) :: r => unlockS (if b then (match S[i]? with
    | some (.lk (.list ds)) => S.set i (.ow (.list ds))
    | _ => S) else S) r
def lkSlots (l : Lks) : List Nat := l.map (·.1)
/-- none of these slots holds a thing of its own -/
def noOwn (S : Sts) (is : List Nat) : Bool := is.all fun i => match S[i]? with
  | some (.ow _) => false
  | some (.lk _) => false
  | _ => true
def wipeS (S : Sts) : List Nat → Sts
  | [] => S
  | i :: is => wipeS (S.set i .no) is
def backS (S0 S : Sts) : List Nat → Sts
  | [] => S
  | i :: is => backS S0 (match S0[i]? with
    | some s => S.set i s
    | none => S) is

/-! ### results -/
def Rs.bind {α β : Type} (r : Rs α) (f : α → Sts → Rs β) : Rs β := match r with
  | .ok a S => f a S
  | .ex c S => .ex c S
  | .bad => .bad
def ofOpt {α : Type} (o : Option α) (S : Sts) : Rs α := match o with
  | some a => .ok a S
  | none => .bad

/-! ### calls -/
inductive FR where
  | ret (d : D) (outs : List D) | exc (c : Nat) | bad
structure FE where
  io : List Bool
  fr : Bool
  den : List D → FR
structure Gl where
  con : Nat → Option D
  fn : Nat → Option FE
  pr : List Nat
def Gl.prot (G : Gl) (is : List Nat) : Gl := ⟨G.con, G.fn, is ++ G.pr⟩
/-- an argument: a shared value, an owned slot, an owned new thing -/
inductive AD where
  | sh (d : D) | sl (i : Nat) | tm (d : D)
def AD.slots : List AD → List Nat
  | [] => []
  | .sl i :: r => i :: AD.slots r
  | .sh _ :: r => AD.slots r
  | .tm _ :: r => AD.slots r
def nodupB : List Nat → Bool
  | [] => true
  | i :: r => !r.contains i && nodupB r
def argD (S : Sts) : AD → Option D
  | .sh d => some d
  | .tm d => some d
  | .sl i => match S[i]? with
    | some (.ow d) => some d
    | _ => none
def argsD (S : Sts) : List AD → Option (List D)
  | [] => some []
  | a :: r => match argD S a, argsD S r with
    | some d, some ds => some (d :: ds)
    | _, _ => none
/-- behind the call: the slots hold what came out -/
def outsS (S : Sts) : List AD → List D → Sts
  | .sh _ :: r, os => outsS S r os
  | .tm _ :: r, _ :: os => outsS S r os
  | .sl i :: r, d :: os => outsS (S.set i (.ow d)) r os
  | _, _ => S
def callR (fe : FE) (as : List AD) (S : Sts) : Rs (Bool × D) :=
  if nodupB (AD.slots as) then
    match argsD S as with
    | some ds => match fe.den ds with
      | .ret d outs => .ok (fe.fr, d) (outsS S as outs)
      | .exc c => .ex c (wipeS S (AD.slots as))
      | .bad => .bad
    | none => .bad
  else .bad

/-! ### loops -/
def Rs.nox {α : Type} (r : Rs α) : Rs α := match r with
  | .ex _ _ => .bad
  | r => r
def evLC (lks : Lks) (t : Tg) (c : Sts → Rs Bool) (f : Sts → Rs (Bool × D)) : List D → Sts → Rs (List D)
  | [], S => if lkOk S lks then .ok [] S else .bad
  | x :: xs, S => if lkOk S lks then (match storeT [] S t false x with
    | none => .bad
    | some S1 => (c S1).nox.bind fun b S2 =>
      if b then (f S2).nox.bind fun y S3 => (evLC lks t c f xs (wipeS S3 t.slots)).bind fun ys S4 => .ok (y.2 :: ys) S4
      else evLC lks t c f xs (wipeS S2 t.slots)) else .bad
def mutD : Mu → D → List D → Option (D × D)
  | .append, .list ds, [x] => if ds.length < szl then some (.none, .list (ds ++ [x])) else none
  | .reverse, .list ds, [] => some (.none, .list ds.reverse)
  | .clear, .list _, [] => some (.none, .list [])
  | .pop, .list ds, [] => match ds.getLast? with
    | some x => some (x, .list ds.dropLast)
    | none => none
  | _, _, _ => none
def meD : Me → D → List D → Option (Bool × D)
  | .get, .dict kvs, [k] => if isDct kvs && keyOk k then some (false, (getDct k kvs).getD .none) else none
  | .get, .dict kvs, [k, z] => if isDct kvs && keyOk k then some (false, (getDct k kvs).getD z) else none
  | _, _, _ => none

def isLst : Option D → Bool
  | some (.list _) => true
  | _ => false
mutual
def ev (G : Gl) : CE → Sts → Rs (Bool × D)
  | .var i, S => valS S i
  | .cst d, S => .ok (false, d) S
  | .glob x, S => match G.con x with
    | some d => .ok (false, d) S
    | none => .bad
  | .neg a, S => (ev G a S).bind fun d S1 => match d.2 with
    | .int i => .ok (false, .int (-i)) S1
    | _ => .bad
  | .not a, S => (opE a (ev G a) S).bind fun d S1 => ofOpt ((tru d.2).map fun b => (false, .bool (!b))) S1
  | .and a b, S => (ev G a S).bind fun d S1 => match d.2 with
    | .bool true => ev G b S1
    | .bool false => .ok (false, .bool false) S1
    | _ => .bad
  | .or a b, S => (ev G a S).bind fun d S1 => match d.2 with
    | .bool false => ev G b S1
    | .bool true => .ok (false, .bool true) S1
    | _ => .bad
  | .ife c a b, S => (evT G c S).bind fun t S1 => if t then ev G a S1 else ev G b S1
  | .bin o a b, S => (opE a (ev G a) S).bind fun d S1 => (opE b (ev G b) S1).bind fun e S2 => ofOpt (late2 a b d.2 e.2 S2 (binD o)) S2
  | .cmp o a b, S => (opE a (ev G a) S).bind fun d S1 => (opE b (ev G b) S1).bind fun e S2 => ofOpt ((late2 a b d.2 e.2 S2 (cmpD o)).map fun b => (false, .bool b)) S2
  | .chain o p a b c, S => (opE a (ev G a) S).bind fun d S1 => (opE b (ev G b) S1).bind fun e S2 => match late2 a b d.2 e.2 S2 (cmpD o) with
    | some true => (opE c (ev G c) S2).bind fun g S3 => ofOpt ((late2 b c e.2 g.2 S3 (cmpD p)).map fun b => (false, .bool b)) S3
    | some false => .ok (false, .bool false) S2
    | none => .bad
  | .tup es, S => (evL G es S).bind fun ds S1 => if ds.length ≤ szl then .ok (false, .tuple ds) S1 else .bad
  | .lst es, S => (evL G es S).bind fun ds S1 => if ds.length ≤ szl then .ok (true, .list ds) S1 else .bad
  | .dct, S => .ok (true, .dict []) S
  | .dct1 k v, S => .bad
  | .mov i, S => match S[i]? with
    | some (.ow d) => .ok (true, d) (S.set i .no)
    | _ => .bad
  | .comp t it cs e, S => (evI G it S).bind fun x S1 =>
      if x.1.length ≤ szl ∧ noOwn S1 t.slots = true then
        (evLC x.2 t (evC G cs) (ev G e) x.1 (wipeS S1 t.slots)).bind fun ds S2 => .ok (true, .list ds) (unlockS (backS S1 S2 t.slots) x.2)
      else .bad
  | .ix a i, S => (opE a (ev G a) S).bind fun d S1 => (opE i (ev G i) S1).bind fun e S2 => ofOpt ((late2 a i d.2 e.2 S2 getIx).map fun x => (false, x)) S2
  | .sl a lo hi, S => (opE a (ev G a) S).bind fun d S1 => (evP G lo S1).bind fun l S2 => (evP G hi S2).bind fun h S3 => ofOpt (late1 a d.2 S3 fun x => cutOf x l h) S3
  | .rev a, S => .bad
  | .stp a lo st, S => .bad
  | .call f as, S => match G.fn f with
    | some fe => (evA G as fe.io S).bind fun ads S1 => callR fe ads S1
    | none => .bad
  | .bi b as, S => (evO G as S).bind fun ds S1 => ofOpt ((lates as ds S1).bind (biD b)) S1
  | .bikey a, S => .bad
  | .isi a t, S => (opE a (ev G a) S).bind fun d S1 => ofOpt ((isTy t d.2).map fun b => (false, .bool b)) S1
  | .meth m o as, S => (opE o (ev G o) S).bind fun d S1 => (evL G as S1).bind fun ds S2 => ofOpt (late1 o d.2 S2 fun x => meD m x ds) S2
  | .mutv m i as, S => if !isLst (rdS S i) then .bad else (evL G as S).bind fun ds S1 => match S1[i]? with
    | some (.ow d) => match mutD m d ds with
      | some (r, d') => .ok (false, r) (S1.set i (.ow d'))
      | none => .bad
    | _ => .bad
/-- a test -/
def evT (G : Gl) : CE → Sts → Rs Bool
  | .not a, S => (evT G a S).bind fun b S1 => .ok (!b) S1
  | .and a b, S => (evT G a S).bind fun t S1 => if t then evT G b S1 else .ok false S1
  | .or a b, S => (evT G a S).bind fun t S1 => if t then .ok true S1 else evT G b S1
  | .ife c a b, S => .bad
  | e, S => (opE e (ev G e) S).bind fun d S1 => ofOpt (tru d.2) S1
/-- values, to be kept -/
def evL (G : Gl) : CEs → Sts → Rs (List D)
  | .nil, S => .ok [] S
  | .cons e es, S => (ev G e S).bind fun d S1 => (evL G es S1).bind fun ds S2 => .ok (d.2 :: ds) S2
/-- operands -/
def evO (G : Gl) : CEs → Sts → Rs (List D)
  | .nil, S => .ok [] S
  | .cons e es, S => (opE e (ev G e) S).bind fun d S1 => (evO G es S1).bind fun ds S2 => .ok (d.2 :: ds) S2
/-- arguments of a def -/
def evA (G : Gl) : CEs → List Bool → Sts → Rs (List AD)
  | .nil, [], S => .ok [] S
  | .cons e es, false :: io, S => (ev G e S).bind fun d S1 => (evA G es io S1).bind fun ds S2 => .ok (.sh d.2 :: ds) S2
  | .cons (.var i) es, true :: io, S => match S[i]? with
    | some (.ow _) => (evA G es io S).bind fun ds S2 => .ok (.sl i :: ds) S2
    | _ => .bad
  | .cons e es, true :: io, S => (ev G e S).bind fun d S1 => if d.1 then (evA G es io S1).bind fun ds S2 => .ok (.tm d.2 :: ds) S2 else .bad
  | _, _, _ => .bad
/-- an optional part of a slice -/
def evP (G : Gl) : CEs → Sts → Rs (Option Int)
  | .nil, S => .ok none S
  | .cons e .nil, S => (ev G e S).bind fun d S1 => match d.2 with
    | .int i => .ok (some i) S1
    | _ => .bad
  | _, _ => .bad
/-- the tests of a comprehension: none or one -/
def evC (G : Gl) : CEs → Sts → Rs Bool
  | .nil, S => .ok true S
  | .cons e .nil, S => evT G e S
  | _, _ => .bad
/-- what is walked: the items, and the slots that are locked meanwhile -/
def evI (G : Gl) : CI → Sts → Rs (List D × Lks)
  | .seq a, S => (opE a (ev G a) S).bind fun d S1 => match late1 a d.2 S1 itemsOf with
    | some ds => .ok (ds, (lockS a S1).2) (lockS a S1).1
    | none => .bad
  | .range1 a, S => (ev G a S).bind fun d S1 => match d.2 with
    | .int n => if smallI n = true then .ok ((List.range n.toNat).map fun k => .int (0 + (k : Nat)), []) S1 else .bad
    | _ => .bad
  | .range2 a b, S => (ev G a S).bind fun d S1 => (ev G b S1).bind fun e S2 => match d.2, e.2 with
    | .int i, .int j => if smallI i = true ∧ smallI j = true then .ok ((List.range (j - i).toNat).map fun k => .int (i + (k : Nat)), []) S2 else .bad
    | _, _ => .bad
  | .zip a b, S => (opE a (ev G a) S).bind fun d S1 => (opE b (ev G b) S1).bind fun e S2 => match late1 a d.2 S2 itemsOf, late1 b e.2 (lockS a S2).1 itemsOf with
    | some ds, some es => .ok (List.zipWith (fun x y => .tuple [x, y]) ds es, (lockS a S2).2 ++ (lockS b (lockS a S2).1).2) (lockS b (lockS a S2).1).1
    | _, _ => .bad
  | .enum a, S => (opE a (ev G a) S).bind fun d S1 => match late1 a d.2 S1 onlyL with
    | some ds => .ok (ds.zipIdx.map fun p => .tuple [.int (p.2 : Nat), p.1], (lockS a S1).2) (lockS a S1).1
    | none => .bad
  | .items a, S => .bad
end

/-! ### statements -/
inductive SR where
  | nx (S : Sts) | rt (r : Bool × D) (S : Sts) | ex (c : Nat) (S : Sts) | bad
def Rs.st {α : Type} (r : Rs α) (f : α → Sts → SR) : SR := match r with
  | .ok a S => f a S
  | .ex c S => .ex c S
  | .bad => .bad
def SR.bind (r : SR) (f : Sts → SR) : SR := match r with
  | .nx S => f S
  | r => r
def optS (o : Option Sts) : SR := match o with
  | some S => .nx S
  | none => .bad
def SR.mapS (r : SR) (f : Sts → Sts) : SR := match r with
  | .nx S => .nx (f S)
  | .rt d S => .rt d (f S)
  | .ex c S => .ex c (f S)
  | .bad => .bad
def evFor (pr : List Nat) (lks : Lks) (t : Tg) (b : Sts → SR) : List D → Sts → SR
  | [], S => if lkOk S lks then .nx S else .bad
  | x :: xs, S => if lkOk S lks then (match storeT pr S t false x with
    | none => .bad
    | some S1 => (b S1).bind fun S2 => evFor pr lks t b xs S2) else .bad
def evWhl (c : Sts → Rs Bool) (b : Sts → SR) : Nat → Sts → SR
  | 0, _ => .bad
  | n + 1, S => (c S).st fun t S1 => if t then (b S1).bind fun S2 => evWhl c b n S2 else .nx S1
mutual
def evS (G : Gl) : CS → Sts → SR
  | .set t e, S => (ev G e S).st fun d S1 => optS (storeT G.pr S1 t d.1 d.2)
  | .par is es, S => .bad
  | .setix i k e, S => (ev G e S).st fun v S1 => if (rdS S1 i).isNone then .bad else (ev G k S1).st fun j S2 => match S2[i]? with
    | some (.ow (.list ds)) => match j.2 with
      | .int n => match ixD ds.length n with
        | some m => .nx (S2.set i (.ow (.list (ds.set m v.2))))
        | none => .bad
      | _ => .bad
    | some (.ow (.dict _)) => .bad
    | _ => .bad
  | .expr e, S => (ev G e S).st fun _ S1 => .nx S1
  | .ife c a b, S => (evT G c S).st fun t S1 => if t then evB G a S1 else evB G b S1
  | .loop t it b, S => (evI G it S).st fun x S1 => (evFor (lkSlots x.2 ++ G.pr) x.2 t (evB (G.prot (lkSlots x.2)) b) x.1 S1).mapS fun S2 => unlockS S2 x.2
  | .whl n c b, S => evWhl (evT G c) (evB G b) n S
  | .ret e, S => (ev G e S).st fun d S1 => .rt d S1
  | .retn, S => .rt (false, .none) S
  | .raise c, S => .ex c S
  | .pass, S => .nx S
  | .tryx b c x v, S => match evB G b S with
    | .ex c' S1 => if c = 0 ∨ c = c' then (match putS G.pr S1 v (.sh (excD c')) with
      | some S2 => .nx (S2.set x .no)
      | none => .bad) else .ex c' S1
    | r => r
  | .tryo b c s, S => match evB G b S with
    | .ex c' S1 => if c = 0 ∨ c = c' then evB G s S1 else .ex c' S1
    | r => r
def evB (G : Gl) : CSs → Sts → SR
  | .nil, S => .nx S
  | .cons s r, S => (evS G s S).bind fun S1 => evB G r S1
end

/-! ### defs -/
structure CD where
  io : List Bool
  fr : Bool
  slots : Nat
  body : CSs
def startS : List Bool → List D → Sts
  | true :: io, d :: ds => .ow d :: startS io ds
  | false :: io, d :: ds => .sh d :: startS io ds
  | _, _ => []
def outsOf (S : Sts) : List Bool → Nat → Option (List D)
  | [], _ => some []
  | false :: io, i => outsOf S io (i + 1)
  | true :: io, i => match S[i]?, outsOf S io (i + 1) with
    | some (.ow d), some ds => some (d :: ds)
    | _, _ => none
def endR (c : CD) (d : Bool × D) (S : Sts) : FR := if c.fr && !d.1 then .bad else match outsOf S c.io 0 with
  | some outs => .ret d.2 outs
  | none => .bad
def ioSlots : List Bool → Nat → List Nat
  | [], _ => []
  | true :: io, i => i :: ioSlots io (i + 1)
  | false :: io, i => ioSlots io (i + 1)
def runD (G : Gl) (c : CD) (ds : List D) : FR :=
  if ds.length = c.io.length then
    match evB ⟨G.con, G.fn, ioSlots c.io 0⟩ c.body (startS c.io ds ++ List.replicate (c.slots - ds.length) .no) with
    | .nx S => endR c (false, .none) S
    | .rt d S => endR c d S
    | .ex e _ => .exc e
    | .bad => .bad
  else .bad
def feOf (G : Gl) (c : CD) : FE := ⟨c.io, c.fr, runD G c⟩
def Gl.add (G : Gl) (f : Nat) (fe : FE) : Gl := ⟨G.con, fun g => if g = f then some fe else G.fn g, G.pr⟩
/-- the table of a program's defs, one behind the other -/
def glOf : List (Nat × CD) → Gl → Gl
  | [], G => G
  | (f, c) :: r, G => glOf r (G.add f (feOf G c))
end Ev

set_option Elab.async false
set_option linter.all false
set_option maxRecDepth 100000
set_option maxHeartbeats 4000000
set_option autoImplicit false
/-! Ev1: how the heap holds what the evaluator speaks of. -/
namespace Ev
open PySem PySem.Spec PyProof.Rows L2

theorem szl_eq : szl = sizeLine := by rw [sizeLine_eq]; rfl

/-- the classes of exceptions by their numbers; the written part -/
structure Kx where
  K : PySem.W.Frag
  cl : Nat → Addr

/-- an exception that is kept -/
def ExcAt (C a : Addr) (h : Heap) : Prop := ∃ oe vs, h.get? a = some oe ∧ Zc (.ref C) none oe ∧ oe.data = .fields vs
def excO (C a : Addr) : HO := .ext (ExcAt C a)
def kD : Key → D
  | .inl i => .int i
  | .inr x => .str x

mutual
/-- a shared value, read in the heap I -/
inductive Rp (P : Kx) (I : Hp) : V → D → Prop where
  | non : Rp P I .non .none
  | bl (b : Bool) : Rp P I (.bl b) (.bool b)
  | int (i : Int) : Rp P I (.int i) (.int i)
  | str (x : Str) : x.length ≤ szl → Rp P I (.str x) (.str x)
  | lst {a : Addr} {xs : List V} {ds : List D} : I a = some (.lst xs) → xs.length ≤ szl → RpAll P I xs ds → Rp P I (.ref a) (.list ds)
  | tup {a : Addr} {xs : List V} {ds : List D} : I a = some (.tup xs) → xs.length ≤ szl → RpAll P I xs ds → Rp P I (.ref a) (.tuple ds)
  | scr {a : Addr} {ns : List Int} : SqL P.K I a (ns.map V.int) → ns.length ≤ szl → Rp P I (.ref a) (scrD ns)
  | ktp {a : Addr} {xs : List V} {ds : List D} : SqT P.K I a xs → RpAll P I xs ds → Rp P I (.ref a) (ktpD ds)
  | exc {a : Addr} {c : Nat} : I a = some (excO (P.cl c) a) → Rp P I (.ref a) (excD c)
  | dk {a : Addr} {kvs : List (Key × V)} {es : List (D × D)} : I a = some (.dK kvs) → kvs.length ≤ szl → RpK P I kvs es → Rp P I (.ref a) (.dict es)
  | dt {a : Addr} {kvs : List (List Key × V)} {es : List (D × D)} : I a = some (.dT kvs) → kvs.length ≤ szl → RpT P I kvs es → Rp P I (.ref a) (.dict es)
inductive RpAll (P : Kx) (I : Hp) : List V → List D → Prop where
  | nil : RpAll P I [] []
  | cons {v : V} {vs : List V} {d : D} {ds : List D} : Rp P I v d → RpAll P I vs ds → RpAll P I (v :: vs) (d :: ds)
inductive RpK (P : Kx) (I : Hp) : List (Key × V) → List (D × D) → Prop where
  | nil : RpK P I [] []
  | cons {k : Key} {v : V} {r : List (Key × V)} {d : D} {es : List (D × D)} : Rp P I v d → RpK P I r es → RpK P I ((k, v) :: r) ((kD k, d) :: es)
inductive RpT (P : Kx) (I : Hp) : List (List Key × V) → List (D × D) → Prop where
  | nil : RpT P I [] []
  | cons {k : List Key} {v : V} {r : List (List Key × V)} {d : D} {es : List (D × D)} : Rp P I v d → RpT P I r es → RpT P I ((k, v) :: r) ((.tuple (k.map kD), d) :: es)
end

theorem sqL_mono {K : PySem.W.Frag} {I I' : Hp} {a : Addr} {xs : List V} (m : Same I I') (h : SqL K I a xs) : SqL K I' a xs := m.seq h
theorem sqT_mono {K : PySem.W.Frag} {I I' : Hp} {a : Addr} {xs : List V} (m : Same I I') (h : SqT K I a xs) : SqT K I' a xs := by
  rcases h with (h | ⟨o, h⟩) | h
  · exact .inl (.inl (m _ _ h))
  · exact .inl (.inr ⟨o, m _ _ h⟩)
  · exact .inr h
section
variable {P : Kx} {I I' : Hp}
mutual
theorem Rp.mono (m : Same I I') : ∀ {v : V} {d : D}, Rp P I v d → Rp P I' v d
  | _, _, .non => .non
  | _, _, .bl b => .bl b
  | _, _, .int i => .int i
  | _, _, .str x h => .str x h
  | _, _, .lst h z r => .lst (m _ _ h) z (RpAll.mono m r)
  | _, _, .tup h z r => .tup (m _ _ h) z (RpAll.mono m r)
  | _, _, .scr h z => .scr (sqL_mono m h) z
  | _, _, .ktp h r => .ktp (sqT_mono m h) (RpAll.mono m r)
  | _, _, .exc h => .exc (m _ _ h)
  | _, _, .dk h z r => .dk (m _ _ h) z (RpK.mono m r)
  | _, _, .dt h z r => .dt (m _ _ h) z (RpT.mono m r)
theorem RpAll.mono (m : Same I I') : ∀ {vs : List V} {ds : List D}, RpAll P I vs ds → RpAll P I' vs ds
  | _, _, .nil => .nil
  | _, _, .cons a b => .cons (Rp.mono m a) (RpAll.mono m b)
theorem RpK.mono (m : Same I I') : ∀ {vs : List (Key × V)} {ds : List (D × D)}, RpK P I vs ds → RpK P I' vs ds
  | _, _, .nil => .nil
  | _, _, .cons a b => .cons (Rp.mono m a) (RpK.mono m b)
theorem RpT.mono (m : Same I I') : ∀ {vs : List (List Key × V)} {ds : List (D × D)}, RpT P I vs ds → RpT P I' vs ds
  | _, _, .nil => .nil
  | _, _, .cons a b => .cons (Rp.mono m a) (RpT.mono m b)
end
theorem RpAll.length : ∀ {vs : List V} {ds : List D}, RpAll P I vs ds → vs.length = ds.length
  | _, _, .nil => rfl
  | _, _, .cons _ b => by rw [List.length_cons, List.length_cons, RpAll.length b]
theorem RpAll.get : ∀ {vs : List V} {ds : List D} {i : Nat} {d : D}, RpAll P I vs ds → ds[i]? = some d → ∃ v, vs[i]? = some v ∧ Rp P I v d
  | _, _, _, _, .nil, h => by simp at h
  | _, _, 0, _, .cons a _, h => by simp at h; subst h; exact ⟨_, rfl, a⟩
  | _, _, i + 1, d, .cons _ b, h => by
    obtain ⟨v, h1, h2⟩ := RpAll.get (i := i) b (by simpa using h)
    exact ⟨v, by simpa using h1, h2⟩
theorem RpAll.getV : ∀ {vs : List V} {ds : List D} {i : Nat} {v : V}, RpAll P I vs ds → vs[i]? = some v → ∃ d, ds[i]? = some d ∧ Rp P I v d
  | _, _, _, _, .nil, h => by simp at h
  | _, _, 0, _, .cons a _, h => by simp at h; subst h; exact ⟨_, rfl, a⟩
  | _, _, i + 1, d, .cons _ b, h => by
    obtain ⟨v, h1, h2⟩ := RpAll.getV (i := i) b (by simpa using h)
    exact ⟨v, by simpa using h1, h2⟩
theorem RpAll.append : ∀ {vs ws : List V} {ds es : List D}, RpAll P I vs ds → RpAll P I ws es → RpAll P I (vs ++ ws) (ds ++ es)
  | _, _, _, _, .nil, s => s
  | _, _, _, _, .cons a b, s => .cons a (RpAll.append b s)
theorem RpAll.take : ∀ {vs : List V} {ds : List D} (n : Nat), RpAll P I vs ds → RpAll P I (vs.take n) (ds.take n)
  | _, _, 0, _ => .nil
  | _, _, _ + 1, .nil => .nil
  | _, _, n + 1, .cons a b => .cons a (RpAll.take n b)
theorem RpAll.drop : ∀ {vs : List V} {ds : List D} (n : Nat), RpAll P I vs ds → RpAll P I (vs.drop n) (ds.drop n)
  | _, _, 0, r => r
  | _, _, _ + 1, .nil => .nil
  | _, _, n + 1, .cons _ b => RpAll.drop n b
theorem RpAll.set {v : V} {d : D} (r : Rp P I v d) : ∀ {vs : List V} {ds : List D} (n : Nat), RpAll P I vs ds → RpAll P I (vs.set n v) (ds.set n d)
  | _, _, _, .nil => .nil
  | _, _, 0, .cons _ b => .cons r b
  | _, _, n + 1, .cons a b => .cons a (RpAll.set r n b)
theorem RpAll.reverse : ∀ {vs : List V} {ds : List D}, RpAll P I vs ds → RpAll P I vs.reverse ds.reverse
  | _, _, .nil => .nil
  | _, _, .cons a b => by
    rw [List.reverse_cons, List.reverse_cons]
    exact (RpAll.reverse b).append (.cons a .nil)
theorem RpAll.dropLast {vs : List V} {ds : List D} (h : RpAll P I vs ds) : RpAll P I vs.dropLast ds.dropLast := by
  rw [List.dropLast_eq_take, List.dropLast_eq_take, h.length]
  exact h.take _
theorem RpAll.rep {vs : List V} {ds : List D} (h : RpAll P I vs ds) : ∀ k : Nat, RpAll P I (List.replicate k vs).flatten (List.replicate k ds).flatten
  | 0 => .nil
  | k + 1 => by
    rw [List.replicate_succ, List.replicate_succ, List.flatten_cons, List.flatten_cons]
    exact h.append (RpAll.rep h k)
theorem RpAll.ints : ∀ (ns : List Int), RpAll P I (ns.map V.int) (ns.map PyData.int)
  | [] => .nil
  | n :: ns => .cons (.int n) (RpAll.ints ns)
end

/-- what an owned thing at a holds -/
inductive Oc (P : Kx) (I H : Hp) (a : Addr) : D → Prop where
  | lst {xs : List V} {ds : List D} : H a = some (.lst xs) → xs.length ≤ szl → RpAll P I xs ds → Oc P I H a (.list ds)
  | dk {kvs : List (Key × V)} {es : List (D × D)} : H a = some (.dK kvs) → kvs.length ≤ szl → RpK P I kvs es → Oc P I H a (.dict es)
  | dt {kvs : List (List Key × V)} {es : List (D × D)} : H a = some (.dT kvs) → kvs.length ≤ szl → RpT P I kvs es → Oc P I H a (.dict es)
theorem Oc.mono {P : Kx} {I I' H H' : Hp} {a : Addr} {d : D} (m : Same I I') (e : H' a = H a) (h : Oc P I H a d) : Oc P I' H' a d := by
  cases h with
  | lst h z r => exact .lst (e.trans h) z (r.mono m)
  | dk h z r => exact .dk (e.trans h) z (r.mono m)
  | dt h z r => exact .dt (e.trans h) z (r.mono m)
/-- not a tuple: what may not be touched is none -/
def nt : HO → Bool
  | .tup _ => false
  | _ => true
theorem Oc.nt {P : Kx} {I H : Hp} {a : Addr} {d : D} (h : Oc P I H a d) : ∃ o, H a = some o ∧ nt o = true := by
  cases h with
  | lst h _ _ => exact ⟨_, h, rfl⟩
  | dk h _ _ => exact ⟨_, h, rfl⟩
  | dt h _ _ => exact ⟨_, h, rfl⟩
/-- .. or a dict that is locked -/
inductive Oz (P : Kx) (I H : Hp) (a : Addr) : D → Prop where
  | of {d : D} (h : Oc P I H a d) : Oz P I H a d
  | fk {o : Obj} {kvs : List (Key × V)} {es : List (D × D)} : H a = some (.frz o (.dK kvs)) → kvs.length ≤ szl → RpK P I kvs es → Oz P I H a (.dict es)
  | ft {o : Obj} {kvs : List (List Key × V)} {es : List (D × D)} : H a = some (.frz o (.dT kvs)) → kvs.length ≤ szl → RpT P I kvs es → Oz P I H a (.dict es)
theorem Oz.mono {P : Kx} {I I' H H' : Hp} {a : Addr} {d : D} (m : Same I I') (e : H' a = H a) (h : Oz P I H a d) : Oz P I' H' a d := by
  cases h with
  | of h => exact .of (h.mono m e)
  | fk h z r => exact .fk (e.trans h) z (r.mono m)
  | ft h z r => exact .ft (e.trans h) z (r.mono m)
theorem Oz.nt {P : Kx} {I H : Hp} {a : Addr} {d : D} (h : Oz P I H a d) : ∃ o, H a = some o ∧ nt o = true := by
  cases h with
  | of h => exact h.nt
  | fk h _ _ => exact ⟨_, h, rfl⟩
  | ft h _ _ => exact ⟨_, h, rfl⟩
/-- an owned thing is shared from now on -/
theorem Oc.share {P : Kx} {I H : Hp} {a : Addr} {d : D} (h : Oc P I H a d) : ∃ o, H a = some o ∧ (Same I (upd I a o) → Rp P (upd I a o) (.ref a) d) := by
  cases h with
  | lst h z r => exact ⟨_, h, fun m => .lst upd_same z (r.mono m)⟩
  | dk h z r => exact ⟨_, h, fun m => .dk upd_same z (r.mono m)⟩
  | dt h z r => exact ⟨_, h, fun m => .dt upd_same z (r.mono m)⟩
theorem same_upd {I : Hp} {p : Addr} {o : HO} (h : I p = none) : Same I (upd I p o) := fun b x e => by
  rw [upd_ne (ne_of_none e h)]
  exact e

/-- a slot's own thing -/
inductive OwnSl : Sl → D → Prop where
  | ow (d : D) : OwnSl (.ow d) d
  | lk (d : D) : OwnSl (.lk d) d
def ownS (S : Sts) (i : Nat) (d : D) : Prop := ∃ s, S[i]? = some s ∧ OwnSl s d

/-- the slots, told by S; I: what is shared; F: what is not to be touched -/
structure Sm (P : Kx) (F : Addr → Prop) (I H : Hp) (σ : L2.St) (S : Sts) : Prop where
  sub : ∀ a o, I a = some o → H a = some o
  frm : ∀ a, F a → I a = none ∧ ∃ o, H a = some o ∧ nt o = true
  len : S.length = σ.length
  shr : ∀ (i : Nat) (d : D), S[i]? = some (Sl.sh d) → ∃ v, σ[i]? = some (some v) ∧ Rp P I v d
  own : ∀ (i : Nat) (d : D), ownS S i d → ∃ a, σ[i]? = some (some (.ref a)) ∧ I a = none ∧ ¬ F a ∧ Oz P I H a d ∧ (S[i]? = some (Sl.ow d) → Oc P I H a d)
  dis : ∀ (i j : Nat) (d e : D) (a : Addr), ownS S i d → ownS S j e → σ[i]? = some (some (.ref a)) → σ[j]? = some (some (.ref a)) → i = j
/-- behind a step: what was shared is, what was not to be touched is untouched -/
structure Ext (F : Addr → Prop) (I H I' H' : Hp) : Prop where
  same : Same I I'
  keep : ∀ a, F a → H' a = H a
theorem Ext.refl {F : Addr → Prop} {I H : Hp} : Ext F I H I H := ⟨Same.refl _, fun _ _ => rfl⟩
theorem Ext.trans {F : Addr → Prop} {I H I1 H1 I2 H2 : Hp} (a : Ext F I H I1 H1) (b : Ext F I1 H1 I2 H2) : Ext F I H I2 H2 :=
  ⟨a.same.trans b.same, fun x h => (b.keep x h).trans (a.keep x h)⟩
theorem Ext.weak {F F' : Addr → Prop} {I H I1 H1 : Hp} (a : Ext F' I H I1 H1) (h : ∀ x, F x → F' x) : Ext F I H I1 H1 := ⟨a.same, fun x q => a.keep x (h x q)⟩
section
variable {P : Kx} {F : Addr → Prop} {I H I' H' : Hp} {σ : L2.St} {S : Sts}
/-- a slot's owned thing is at this place -/
def OwnAt (σ : L2.St) (S : Sts) (a : Addr) : Prop := ∃ (i : Nat) (d : D), ownS S i d ∧ σ[i]? = some (some (.ref a))
theorem Sm.ownAt (m : Sm P F I H σ S) {a : Addr} (h : OwnAt σ S a) : I a = none ∧ ¬ F a ∧ ∃ o, H a = some o ∧ nt o = true := by
  obtain ⟨i, d, h1, h2⟩ := h
  obtain ⟨b, e, n, f, oc, _⟩ := m.own i d h1
  rw [h2] at e
  cases e
  exact ⟨n, f, oc.nt⟩
theorem Sm.weak {F' : Addr → Prop} (m : Sm P F' I H σ S) (h : ∀ x, F x → F' x) : Sm P F I H σ S :=
  ⟨m.sub, fun a f => m.frm a (h a f), m.len, m.shr, fun i d o => let ⟨a, e, n, f, oc⟩ := m.own i d o; ⟨a, e, n, fun z => f (h a z), oc⟩, m.dis⟩
/-- more is not to be touched -/
theorem Sm.more {F' : Addr → Prop} (m : Sm P F I H σ S) (h : ∀ x, F' x → F x ∨ (I x = none ∧ (∃ o, H x = some o ∧ nt o = true) ∧ ¬ OwnAt σ S x)) : Sm P F' I H σ S :=
  ⟨m.sub, fun a f => (h a f).elim (m.frm a) fun z => ⟨z.1, z.2.1⟩, m.len, m.shr, fun i d o => by
    obtain ⟨a, e, n, f, oc⟩ := m.own i d o
    exact ⟨a, e, n, fun z => (h a z).elim f fun q => q.2.2 ⟨i, d, o, e⟩, oc⟩, m.dis⟩
/-- a new object that is nobody's -/
theorem Sm.new {p : Addr} {o : HO} (m : Sm P F I H σ S) (h : H p = none) : Sm P F I (upd H p o) σ S ∧ Ext F I H I (upd H p o) ∧ I p = none ∧ ¬ F p ∧ ¬ OwnAt σ S p := by
  have nI : I p = none := by
    cases q : I p with
    | none => rfl
    | some u => rw [m.sub p u q] at h; cases h
  have nF : ¬ F p := fun f => by
    obtain ⟨_, u, e, _⟩ := m.frm p f
    rw [e] at h; cases h
  have nO : ¬ OwnAt σ S p := fun z => by
    obtain ⟨_, _, u, e, _⟩ := m.ownAt z
    rw [e] at h; cases h
  refine ⟨⟨fun a u e => ?_, fun a f => ?_, m.len, m.shr, fun i d q => ?_, m.dis⟩, ⟨Same.refl _, fun a f => ?_⟩, nI, nF, nO⟩
  · rw [upd_ne (ne_of_none (m.sub a u e) h)]; exact m.sub a u e
  · obtain ⟨n, u, e, mu⟩ := m.frm a f
    exact ⟨n, u, by rw [upd_ne (ne_of_none e h)]; exact e, mu⟩
  · obtain ⟨a, e, n, f, oz, oc⟩ := m.own i d q
    obtain ⟨u, eu, _⟩ := oz.nt
    have ne : upd H p o a = H a := upd_ne (ne_of_none eu h)
    exact ⟨a, e, n, f, oz.mono (Same.refl _) ne, fun z => (oc z).mono (Same.refl _) ne⟩
  · obtain ⟨n, u, e, mu⟩ := m.frm a f
    exact upd_ne (ne_of_none e h)
/-- what is in the heap and nobody's is shared from now on -/
theorem Sm.adopt {p : Addr} {o : HO} (m : Sm P F I H σ S) (e : H p = some o) (n : I p = none) (nF : ¬ F p) (nO : ¬ OwnAt σ S p) : Sm P F (upd I p o) H σ S ∧ Same I (upd I p o) := by
  have s : Same I (upd I p o) := same_upd n
  refine ⟨⟨fun a u q => ?_, fun a f => ?_, m.len, fun i d q => ?_, fun i d q => ?_, m.dis⟩, s⟩
  · by_cases ha : a = p
    · subst ha; rw [upd_same] at q; cases q; exact e
    · rw [upd_ne ha] at q; exact m.sub a u q
  · have ha : a ≠ p := fun z => nF (z ▸ f)
    rw [upd_ne ha]; exact m.frm a f
  · obtain ⟨v, h1, h2⟩ := m.shr i d q
    exact ⟨v, h1, h2.mono s⟩
  · obtain ⟨a, e1, n1, f1, oz, oc⟩ := m.own i d q
    have ha : a ≠ p := fun z => nO ⟨i, d, q, z ▸ e1⟩
    exact ⟨a, e1, by rw [upd_ne ha]; exact n1, f1, oz.mono s rfl, fun z => (oc z).mono s rfl⟩
/-- a tuple that stands in the heap may be shared -/
theorem Sm.adoptT {p : Addr} {xs : List V} (m : Sm P F I H σ S) (e : H p = some (.tup xs)) : ∃ I', Sm P F I' H σ S ∧ Same I I' ∧ I' p = some (.tup xs) := by
  cases q : I p with
  | some o =>
    have := m.sub p o q
    rw [e] at this
    cases this
    exact ⟨I, m, Same.refl _, q⟩
  | none =>
    have nF : ¬ F p := fun f => by
      obtain ⟨_, o, e2, k⟩ := m.frm p f
      rw [e] at e2; cases e2; cases k
    have nO : ¬ OwnAt σ S p := fun z => by
      obtain ⟨_, _, o, e2, k⟩ := m.ownAt z
      rw [e] at e2; cases e2; cases k
    obtain ⟨m1, s⟩ := m.adopt e q nF nO
    exact ⟨_, m1, s, upd_same⟩
/-- a new object that is shared at once -/
theorem Sm.newI {p : Addr} {o : HO} (m : Sm P F I H σ S) (h : H p = none) : Sm P F (upd I p o) (upd H p o) σ S ∧ Ext F I H (upd I p o) (upd H p o) := by
  obtain ⟨m1, x1, n, nF, nO⟩ := m.new (o := o) h
  obtain ⟨m2, s⟩ := m1.adopt upd_same n nF nO
  exact ⟨m2, s, x1.keep⟩

/-! ### slots -/
theorem set_get {α : Type} {l : List α} {i j : Nat} {x y : α} (h : (l.set i x)[j]? = some y) : (i = j ∧ x = y) ∨ (i ≠ j ∧ l[j]? = some y) := by
  by_cases hi : i = j
  · subst hi
    by_cases hl : i < l.length
    · rw [List.getElem?_set_self hl] at h; exact .inl ⟨rfl, Option.some.inj h⟩
    · rw [List.getElem?_eq_none (by simpa using hl)] at h; cases h
  · rw [List.getElem?_set_ne hi] at h; exact .inr ⟨hi, h⟩
theorem ownS_set {i j : Nat} {s : Sl} {d : D} (h : ownS (S.set i s) j d) : (i = j ∧ OwnSl s d) ∨ (i ≠ j ∧ ownS S j d) := by
  obtain ⟨t, h, o⟩ := h
  rcases set_get h with ⟨a, b⟩ | ⟨a, b⟩
  · subst b; exact .inl ⟨a, o⟩
  · exact .inr ⟨a, t, b, o⟩
theorem notOwn_sh {d e : D} (h : OwnSl (.sh d) e) : False := by cases h
theorem notOwn_no {e : D} (h : OwnSl .no e) : False := by cases h
theorem ow_own {i : Nat} {d : D} (h : S[i]? = some (Sl.ow d)) : ownS S i d := ⟨_, h, .ow d⟩
theorem lk_own {i : Nat} {d : D} (h : S[i]? = some (Sl.lk d)) : ownS S i d := ⟨_, h, .lk d⟩
/-- a slot's own thing is shared from now on -/
theorem Sm.share {i : Nat} {d : D} (m : Sm P F I H σ S) (h : S[i]? = some (Sl.ow d)) : ∃ a I', σ[i]? = some (some (.ref a)) ∧ Sm P F I' H σ (S.set i (.sh d)) ∧ Ext F I H I' H ∧ Rp P I' (.ref a) d := by
  obtain ⟨a, e, n, f, _, oc⟩ := m.own i d (ow_own h)
  obtain ⟨o, eo, sh⟩ := (oc h).share
  have s : Same I (upd I a o) := same_upd n
  refine ⟨a, upd I a o, e, ⟨fun b u q => ?_, fun b fb => ?_, by rw [List.length_set]; exact m.len, fun j d' q => ?_, fun j d' q => ?_, fun j k d1 d2 b h1 h2 => ?_⟩, ⟨s, fun _ _ => rfl⟩, sh s⟩
  · by_cases hb : b = a
    · subst hb; rw [upd_same] at q; cases q; exact eo
    · rw [upd_ne hb] at q; exact m.sub b u q
  · have hb : b ≠ a := fun z => f (z ▸ fb)
    rw [upd_ne hb]; exact m.frm b fb
  · rcases set_get q with ⟨rfl, e2⟩ | ⟨hj, q⟩
    · cases e2; exact ⟨_, e, sh s⟩
    · obtain ⟨v, h1, h2⟩ := m.shr j d' q
      exact ⟨v, h1, h2.mono s⟩
  · rcases ownS_set q with ⟨_, e2⟩ | ⟨hj, q⟩
    · exact (notOwn_sh e2).elim
    · obtain ⟨b, e1, n1, f1, oz1, oc1⟩ := m.own j d' q
      have hb : b ≠ a := fun z => hj (m.dis i j d d' a (ow_own h) q e (z ▸ e1))
      refine ⟨b, e1, by rw [upd_ne hb]; exact n1, f1, oz1.mono s rfl, fun z => ?_⟩
      rw [List.getElem?_set_ne hj] at z
      exact (oc1 z).mono s rfl
  · rcases ownS_set h1 with ⟨_, e2⟩ | ⟨_, h1⟩
    · exact (notOwn_sh e2).elim
    · rcases ownS_set h2 with ⟨_, e2⟩ | ⟨_, h2⟩
      · exact (notOwn_sh e2).elim
      · exact m.dis j k d1 d2 b h1 h2
/-- less is known of a slot -/
theorem Sm.forget {i : Nat} (m : Sm P F I H σ S) : Sm P F I H σ (S.set i .no) := by
  refine ⟨m.sub, m.frm, by rw [List.length_set]; exact m.len, fun j d q => ?_, fun j d q => ?_, fun j k d1 d2 b h1 h2 => ?_⟩
  · rcases set_get q with ⟨_, e2⟩ | ⟨_, q⟩
    · cases e2
    · exact m.shr j d q
  · rcases ownS_set q with ⟨_, e2⟩ | ⟨hj, q⟩
    · exact (notOwn_no e2).elim
    · obtain ⟨a, e, n, f, oz, oc⟩ := m.own j d q
      exact ⟨a, e, n, f, oz, fun z => oc (by rw [List.getElem?_set_ne hj] at z; exact z)⟩
  · rcases ownS_set h1 with ⟨_, e2⟩ | ⟨_, h1⟩
    · exact (notOwn_no e2).elim
    · rcases ownS_set h2 with ⟨_, e2⟩ | ⟨_, h2⟩
      · exact (notOwn_no e2).elim
      · exact m.dis j k d1 d2 b h1 h2
theorem lt_set {i j : Nat} {s t : Sl} (h : (S.set i s)[j]? = some t) : j < S.length := by
  have := (List.getElem?_eq_some_iff.mp h).1
  rw [List.length_set] at this
  exact this
/-- a slot is stored to: a shared value -/
theorem Sm.storeSh {i : Nat} {v : V} {d : D} (m : Sm P F I H σ S) (r : Rp P I v d) : Sm P F I H (σ.set i (some v)) (S.set i (.sh d)) := by
  refine ⟨m.sub, m.frm, by rw [List.length_set, List.length_set]; exact m.len, fun j d' q => ?_, fun j d' q => ?_, fun j k d1 d2 b h1 h2 => ?_⟩
  · rcases id (set_get q) with ⟨rfl, e2⟩ | ⟨hj, q'⟩
    · cases e2
      refine ⟨v, ?_, r⟩
      rw [List.getElem?_set_self (by rw [← m.len]; exact lt_set q)]
    · obtain ⟨w, h1, h2⟩ := m.shr j d' q'
      exact ⟨w, by rw [List.getElem?_set_ne hj]; exact h1, h2⟩
  · rcases ownS_set q with ⟨_, e2⟩ | ⟨hj, q⟩
    · exact (notOwn_sh e2).elim
    · obtain ⟨a, e1, n1, f1, oz, oc⟩ := m.own j d' q
      exact ⟨a, by rw [List.getElem?_set_ne hj]; exact e1, n1, f1, oz, fun z => oc (by rw [List.getElem?_set_ne hj] at z; exact z)⟩
  · rcases ownS_set h1 with ⟨_, e2⟩ | ⟨hj, h1⟩
    · exact (notOwn_sh e2).elim
    · rcases ownS_set h2 with ⟨_, e2⟩ | ⟨hk, h2⟩
      · exact (notOwn_sh e2).elim
      · rw [List.getElem?_set_ne hj, List.getElem?_set_ne hk]
        exact m.dis j k d1 d2 b h1 h2
/-- .. an owned thing -/
theorem Sm.storeOw {i : Nat} {a : Addr} {d : D} (m : Sm P F I H σ S) (n : I a = none) (f : ¬ F a) (no : ¬ OwnAt σ S a) (oc : Oc P I H a d) : Sm P F I H (σ.set i (some (.ref a))) (S.set i (.ow d)) := by
  refine ⟨m.sub, m.frm, by rw [List.length_set, List.length_set]; exact m.len, fun j d' q => ?_, fun j d' q => ?_, fun j k d1 d2 b h1 h2 => ?_⟩
  · rcases set_get q with ⟨_, e2⟩ | ⟨hj, q⟩
    · cases e2
    · obtain ⟨w, h1, h2⟩ := m.shr j d' q
      exact ⟨w, by rw [List.getElem?_set_ne hj]; exact h1, h2⟩
  · rcases id (ownS_set q) with ⟨rfl, e2⟩ | ⟨hj, q'⟩
    · cases e2
      obtain ⟨t, q, _⟩ := q
      refine ⟨a, ?_, n, f, .of oc, fun _ => oc⟩
      rw [List.getElem?_set_self (by rw [← m.len]; exact lt_set q)]
    · obtain ⟨b, e1, n1, f1, oz1, oc1⟩ := m.own j d' q'
      exact ⟨b, by rw [List.getElem?_set_ne hj]; exact e1, n1, f1, oz1, fun z => oc1 (by rw [List.getElem?_set_ne hj] at z; exact z)⟩
  · intro h3 h4
    have at_i : ∀ k, i ≠ k → ∀ e, ownS S k e → (σ.set i (some (V.ref a)))[k]? = some (some (.ref b)) → (σ.set i (some (V.ref a)))[i]? = some (some (.ref b)) → False := fun k hk e o q1 q2 => by
      rw [List.getElem?_set_ne hk] at q1
      rcases set_get q2 with ⟨_, e2⟩ | ⟨h, _⟩
      · cases e2
        exact no ⟨k, e, o, q1⟩
      · exact h rfl
    rcases ownS_set h1 with ⟨rfl, _⟩ | ⟨hj, h1⟩
    · rcases ownS_set h2 with ⟨rfl, _⟩ | ⟨hk, h2⟩
      · rfl
      · exact (at_i k hk d2 h2 h4 h3).elim
    · rcases ownS_set h2 with ⟨rfl, _⟩ | ⟨hk, h2⟩
      · exact (at_i j hj d1 h1 h3 h4).elim
      · rw [List.getElem?_set_ne hj] at h3
        rw [List.getElem?_set_ne hk] at h4
        exact m.dis j k d1 d2 b h1 h2 h3 h4
/-- the thing at a slot is changed, or locked, unlocked -/
theorem Sm.turn {i : Nat} {a : Addr} {d e : D} {s : Sl} {o : HO} (m : Sm P F I H σ S) (h : ownS S i d) (ea : σ[i]? = some (some (.ref a))) (hs : OwnSl s e) (oz : Oz P I (upd H a o) a e) (oc : s = .ow e → Oc P I (upd H a o) a e) :
    Sm P F I (upd H a o) σ (S.set i s) ∧ Ext F I H I (upd H a o) := by
  obtain ⟨b, eb, n, f, _⟩ := m.own i d h
  rw [ea] at eb
  cases eb
  have nF : ∀ x, F x → x ≠ a := fun x q z => f (z ▸ q)
  have nto : nt o = true := by
    obtain ⟨u, e1, e2⟩ := oz.nt
    rw [upd_same] at e1
    cases e1
    exact e2
  refine ⟨⟨fun x u q => ?_, fun x fx => ?_, by rw [List.length_set]; exact m.len, fun j d' q => ?_, fun j d' q => ?_, fun j k d1 d2 b h1 h2 => ?_⟩, Same.refl _, fun x fx => upd_ne (nF x fx)⟩
  · have hx : x ≠ a := fun z => by rw [z, n] at q; cases q
    rw [upd_ne hx]; exact m.sub x u q
  · rw [upd_ne (nF x fx)]; exact m.frm x fx
  · rcases set_get q with ⟨_, e2⟩ | ⟨_, q⟩
    · subst e2; cases hs
    · exact m.shr j d' q
  · rcases id (ownS_set q) with ⟨rfl, e2⟩ | ⟨hj, q'⟩
    · have : e = d' := by cases hs <;> cases e2 <;> rfl
      subst this
      refine ⟨a, ea, n, f, oz, fun z => oc ?_⟩
      rcases set_get z with ⟨_, z⟩ | ⟨z, _⟩
      · exact z
      · exact absurd rfl z
    · obtain ⟨b, e1, n1, f1, oz1, oc1⟩ := m.own j d' q'
      have hb : b ≠ a := fun z => hj (m.dis i j d d' a h q' ea (z ▸ e1))
      exact ⟨b, e1, n1, f1, oz1.mono (Same.refl _) (upd_ne hb), fun z => (oc1 (by rw [List.getElem?_set_ne hj] at z; exact z)).mono (Same.refl _) (upd_ne hb)⟩
  · have old : ∀ {j d1}, ownS (S.set i s) j d1 → ∃ d', ownS S j d' := fun {j d1} q => by
      rcases ownS_set q with ⟨rfl, _⟩ | ⟨_, q⟩
      · exact ⟨d, h⟩
      · exact ⟨_, q⟩
    obtain ⟨d1', h1⟩ := old h1
    obtain ⟨d2', h2⟩ := old h2
    exact m.dis j k d1' d2' b h1 h2
/-- a list that is owned is locked, unlocked -/
theorem Sm.relabel {i : Nat} {d : D} {s : Sl} (m : Sm P F I H σ S) (h : ownS S i d) (hs : OwnSl s d) (hc : ∀ a, σ[i]? = some (some (.ref a)) → Oz P I H a d → s = .ow d → Oc P I H a d) : Sm P F I H σ (S.set i s) := by
  have old : ∀ {j d1}, ownS (S.set i s) j d1 → ownS S j d1 := fun {j d1} q => by
    rcases ownS_set q with ⟨rfl, e2⟩ | ⟨_, q⟩
    · have : d = d1 := by cases hs <;> cases e2 <;> rfl
      subst this
      exact h
    · exact q
  refine ⟨m.sub, m.frm, by rw [List.length_set]; exact m.len, fun j d' q => ?_, fun j d' q => ?_, fun j k d1 d2 b h1 h2 => m.dis j k d1 d2 b (old h1) (old h2)⟩
  · rcases set_get q with ⟨_, e2⟩ | ⟨_, q⟩
    · subst e2; cases hs
    · exact m.shr j d' q
  · obtain ⟨a, e, n, f, oz, oc⟩ := m.own j d' (old q)
    refine ⟨a, e, n, f, oz, fun z => ?_⟩
    rcases set_get z with ⟨e0, z1⟩ | ⟨_, z1⟩
    · subst e0
      subst z1
      cases hs
      exact hc a e oz rfl
    · exact oc z1
end
end Ev

set_option Elab.async false
set_option linter.all false
set_option maxRecDepth 100000
set_option maxHeartbeats 4000000
set_option autoImplicit false
/-! Ev2: values, operands; what the operators, comparisons, built-ins answer. -/
namespace Ev
open PySem PySem.Spec PyProof.Rows L2

/-- an operand: shared, or somebody's own as it stands -/
def To (P : Kx) (I H : Hp) (v : V) (d : D) : Prop := Rp P I v d ∨ ∃ a, v = .ref a ∧ Oz P I H a d
/-- a value: shared, or new and nobody's -/
def Tv (P : Kx) (F : Addr → Prop) (I H : Hp) (σ : L2.St) (S : Sts) (v : V) (r : Bool × D) : Prop :=
  if r.1 = true then ∃ a, v = .ref a ∧ I a = none ∧ ¬ F a ∧ ¬ OwnAt σ S a ∧ Oc P I H a r.2 else Rp P I v r.2
section
variable {P : Kx} {F : Addr → Prop} {I H I' H' : Hp} {σ : L2.St} {S : Sts} {v : V} {d : D} {r : Bool × D}
theorem Tv.to (h : Tv P F I H σ S v r) : To P I H v r.2 := by
  unfold Tv at h
  split at h
  · obtain ⟨a, e, _, _, _, oc⟩ := h
    exact .inr ⟨a, e, .of oc⟩
  · exact .inl h
theorem Tv.of (h : Rp P I v d) : Tv P F I H σ S v (false, d) := by
  unfold Tv
  rw [if_neg Bool.false_ne_true]
  exact h
theorem To.int {i : Int} (h : To P I H v (.int i)) : v = .int i := by
  rcases h with h | ⟨a, _, h⟩
  · cases h; rfl
  · cases h with | of h => cases h
theorem To.bl {b : Bool} (h : To P I H v (.bool b)) : v = .bl b := by
  rcases h with h | ⟨a, _, h⟩
  · cases h; rfl
  · cases h with | of h => cases h
theorem To.non (h : To P I H v .none) : v = .non := by
  rcases h with h | ⟨a, _, h⟩
  · cases h; rfl
  · cases h with | of h => cases h
theorem To.str {x : Str} (h : To P I H v (.str x)) : v = .str x ∧ x.length ≤ szl := by
  rcases h with h | ⟨a, _, h⟩
  · cases h with | str _ z => exact ⟨rfl, z⟩
  · cases h with | of h => cases h
theorem To.lst {ds : List D} (sub : ∀ a o, I a = some o → H a = some o) (h : To P I H v (.list ds)) : ∃ a xs, v = .ref a ∧ H a = some (.lst xs) ∧ xs.length ≤ szl ∧ RpAll P I xs ds := by
  rcases h with h | ⟨a, e, h⟩
  · cases h with
    | lst h z r => exact ⟨_, _, rfl, sub _ _ h, z, r⟩
  · cases h with
    | of h => cases h with
      | lst h z r => exact ⟨_, _, e, h, z, r⟩
theorem To.tup {ds : List D} (sub : ∀ a o, I a = some o → H a = some o) (h : To P I H v (.tuple ds)) : ∃ a xs, v = .ref a ∧ I a = some (.tup xs) ∧ H a = some (.tup xs) ∧ xs.length ≤ szl ∧ RpAll P I xs ds := by
  rcases h with h | ⟨a, e, h⟩
  · cases h with
    | tup h z r => exact ⟨_, _, rfl, h, sub _ _ h, z, r⟩
  · cases h with | of h => cases h
theorem To.mono (m : Ext F I H I' H') (hf : ∀ a, v = .ref a → I a = none → F a) (sub : ∀ a o, I a = some o → H a = some o) (sub' : ∀ a o, I' a = some o → H' a = some o) (h : To P I H v d) : To P I' H' v d := by
  rcases h with h | ⟨a, e, h⟩
  · exact .inl (h.mono m.same)
  · refine .inr ⟨a, e, ?_⟩
    cases q : I a with
    | none => exact h.mono m.same (m.keep a (hf a e q))
    | some o =>
      have h1 := sub a o q
      have h2 := sub' a o (m.same a o q)
      exact h.mono m.same (h2.trans h1.symm)

/-! ### data: the plain ones are the library's data -/
mutual
theorem plain_depth : ∀ (k : Nat) (d : D), plain k d = true → d.depth ≤ k ∧ PyData.plain d = true
  | _, .none, _ => by simp [PyData.depth, PyData.plain]
  | _, .bool _, _ => by simp [PyData.depth, PyData.plain]
  | _, .int _, _ => by simp [PyData.depth, PyData.plain]
  | _, .str _, _ => by simp [PyData.depth, PyData.plain]
  | 0, .list _, h => by simp [plain] at h
  | 0, .tuple _, h => by simp [plain] at h
  | k + 1, .list ds, h => by
    have := plains_depth k ds (by simpa [plain] using h)
    simp only [PyData.depth, PyData.plain]
    exact ⟨by omega, this.2⟩
  | k + 1, .tuple ds, h => by
    have := plains_depth k ds (by simpa [plain] using h)
    simp only [PyData.depth, PyData.plain]
    exact ⟨by omega, this.2⟩
  | _, .dict _, h => by simp [plain] at h
theorem plains_depth : ∀ (k : Nat) (ds : List D), plains k ds = true → PyData.depthAll ds ≤ k ∧ PyData.plainAll ds = true
  | _, [], _ => by simp [PyData.depthAll, PyData.plainAll]
  | k, d :: ds, h => by
    simp only [plains, Bool.and_eq_true] at h
    have h1 := plain_depth k d h.1
    have h2 := plains_depth k ds h.2
    simp only [PyData.depthAll, PyData.plainAll, Bool.and_eq_true]
    exact ⟨by omega, h1.2, h2.2⟩
end
mutual
theorem Rp.dp (sub : ∀ a o, I a = some o → H a = some o) : ∀ (k : Nat) (v : V) (d : D), plain k d = true → Rp P I v d → Dp P.K H v d
  | _, _, .none, _, h => by cases h; exact .non
  | _, _, .bool _, _, h => by cases h; exact .bl _
  | _, _, .int _, _, h => by cases h; exact .int _
  | _, _, .str _, _, h => by cases h; exact .str _
  | 0, _, .list _, h, _ => by simp [plain] at h
  | 0, _, .tuple _, h, _ => by simp [plain] at h
  | k + 1, _, .list ds, h, r => by
    cases r with
    | lst e z r => exact .lst (.inl (.inl (sub _ _ e))) (RpAll.dp sub k _ ds (by simpa [plain] using h) r)
  | k + 1, _, .tuple ds, h, r => by
    cases r with
    | tup e z r => exact .tup (.inl (.inl (sub _ _ e))) (RpAll.dp sub k _ ds (by simpa [plain] using h) r)
  | _, _, .dict _, h, _ => by simp [plain] at h
theorem RpAll.dp (sub : ∀ a o, I a = some o → H a = some o) : ∀ (k : Nat) (vs : List V) (ds : List D), plains k ds = true → RpAll P I vs ds → DpAll P.K H vs ds
  | _, _, [], _, h => by cases h; exact .nil
  | k, _, d :: ds, h, r => by
    simp only [plains, Bool.and_eq_true] at h
    cases r with
    | cons a b => exact .cons (Rp.dp sub k _ d h.1 a) (RpAll.dp sub k _ ds h.2 b)
end
theorem To.dp (sub : ∀ a o, I a = some o → H a = some o) {k : Nat} (h : plain k d = true) (t : To P I H v d) : Dp P.K H v d := by
  rcases t with t | ⟨a, e, t⟩
  · exact t.dp sub k v d h
  · subst e
    cases t with
    | of t => cases t with
      | lst h1 z r =>
        cases k with
        | zero => simp [plain] at h
        | succ k => exact .lst (.inl (.inl h1)) (r.dp sub k _ _ (by simpa [plain] using h))
      | dk _ _ _ => cases k <;> simp [plain] at h
      | dt _ _ _ => cases k <;> simp [plain] at h
    | fk _ _ _ => cases k <;> simp [plain] at h
    | ft _ _ _ => cases k <;> simp [plain] at h
end
/-! ### what is wanted of an answer -/
def Kt (P : Kx) (F : Addr → Prop) (I H : Hp) (σ : L2.St) (S : Sts) (Q : VK) (res : Bool × D) : Prop :=
  ∀ v I' H', Ext F I H I' H' → Sm P F I' H' σ S → Tv P F I' H' σ S v res → Q v H'
section
variable {P : Kx} {F : Addr → Prop} {I H I' H' : Hp} {σ : L2.St} {S : Sts} {v : V} {d : D} {r : Bool × D} {Q : VK}
theorem Kt.imm (k : Kt P F I H σ S Q (false, d)) (sm : Sm P F I H σ S) (r : Rp P I v d) : Q v H := k v I H .refl sm (.of r)
theorem Kt.newL {p : Addr} {xs : List V} {ds : List D} (k : Kt P F I H σ S Q (true, .list ds)) (sm : Sm P F I H σ S) (hp : H p = none) (z : xs.length ≤ szl) (r : RpAll P I xs ds) : Q (.ref p) (upd H p (.lst xs)) := by
  obtain ⟨m, e, n, f, o⟩ := sm.new (o := .lst xs) hp
  refine k _ _ _ e m ?_
  unfold Tv
  rw [if_pos rfl]
  exact ⟨p, rfl, n, f, o, .lst upd_same z r⟩
theorem Kt.newK {p : Addr} (k : Kt P F I H σ S Q (true, .dict [])) (sm : Sm P F I H σ S) (hp : H p = none) : Q (.ref p) (upd H p (.dK [])) := by
  obtain ⟨m, e, n, f, o⟩ := sm.new (o := .dK []) hp
  refine k _ _ _ e m ?_
  unfold Tv
  rw [if_pos rfl]
  exact ⟨p, rfl, n, f, o, .dk upd_same (Nat.zero_le _) .nil⟩
theorem Kt.newT {p : Addr} {xs : List V} {ds : List D} (k : Kt P F I H σ S Q (false, .tuple ds)) (sm : Sm P F I H σ S) (hp : H p = none) (z : xs.length ≤ szl) (r : RpAll P I xs ds) : Q (.ref p) (upd H p (.tup xs)) := by
  obtain ⟨m, e⟩ := sm.newI (o := .tup xs) hp
  exact k _ _ _ e m (.of (.tup upd_same z (r.mono e.same)))
end

/-! ### operators -/
def opOf : BOp → Operator
  | .add => .Add
  | .sub => .Sub
  | .mul => .Mult
  | .fdiv => .FloorDiv
  | .mod => .Mod
  | .pow => .Pow
/-- a rule that serves the evaluator's operator -/
def OpSd (P : Kx) (o : BOp) (r : R2) : Prop := ∀ (F : Addr → Prop) (I H : Hp) (σ : L2.St) (S : Sts) (x y : V) (d e : D) (res : Bool × D) (Q : VK),
  Sm P F I H σ S → To P I H x d → To P I H y e → binD o d e = some res → Kt P F I H σ S Q res → r x y H Q
theorem le_szl {n : Nat} (h : n ≤ szl) : n ≤ sizeLine := by rw [← szl_eq]; exact h
section
variable {P : Kx} {X : Cx}
theorem op_s_add (hK : X.K = P.K) : ∃ r, OpR X (binaryOp .Add) r ∧ OpSd P .add r := by
  refine ⟨_, op_add.or (op_add_str.or (op_catA.or op_cat)), ?_⟩
  intro F I H σ S x y d e res Q sm tx ty h k
  cases d with
  | int i => cases e with
    | int j =>
      simp only [binD, Option.some.injEq] at h
      subst h
      exact .inl ⟨i, j, tx.int, ty.int, k.imm sm (.int _)⟩
    | _ => simp [binD] at h
  | str i => cases e with
    | str j =>
      simp only [binD] at h
      split at h
      · rename_i z
        simp only [Option.some.injEq] at h
        subst h
        refine .inr (.inl ⟨i, j, tx.str.1, ty.str.1, le_szl z, k.imm sm (.str _ ?_)⟩)
        have : (i ++ j).length = i.length + j.length := by first | exact Str.length_append i j | exact PySem.Str.length_append | rfl | simp [Str.length]
        rw [this]; exact z
      · cases h
    | _ => simp [binD] at h
  | tuple ds => cases e with
    | tuple es =>
      simp only [binD] at h
      split at h
      · rename_i z
        simp only [Option.some.injEq] at h
        subst h
        obtain ⟨a, xs, e1, i1, h1, z1, r1⟩ := tx.tup sm.sub
        obtain ⟨b, ys, e2, i2, h2, z2, r2⟩ := ty.tup sm.sub
        have l1 := r1.length
        have l2 := r2.length
        refine .inr (.inr (.inl ⟨a, b, xs, ys, e1, e2, .of h1, .of h2, le_szl (by omega), fun q => ?_, fun _ q => ?_, fun _ _ p hp => ?_⟩))
        · subst q
          cases r1
          subst e2
          exact k.imm sm (.tup i2 z2 r2)
        · subst q
          cases r2
          subst e1
          rw [List.append_nil] at k
          exact k.imm sm (.tup i1 z1 r1)
        · exact k.newT sm hp (by rw [List.length_append]; omega) (r1.append r2)
      · cases h
    | _ => simp [binD] at h
  | list ds => cases e with
    | list es =>
      simp only [binD] at h
      split at h
      · rename_i z
        simp only [Option.some.injEq] at h
        subst h
        obtain ⟨a, xs, e1, h1, z1, r1⟩ := tx.lst sm.sub
        obtain ⟨b, ys, e2, h2, z2, r2⟩ := ty.lst sm.sub
        have l1 := r1.length
        have l2 := r2.length
        exact .inr (.inr (.inr ⟨a, b, xs, ys, e1, e2, h1, h2, le_szl (by omega), fun p hp => k.newL sm hp (by rw [List.length_append]; omega) (r1.append r2)⟩))
      · cases h
    | _ => simp [binD] at h
  | _ => simp [binD] at h
theorem op_s_sub (hK : X.K = P.K) : ∃ r, OpR X (binaryOp .Sub) r ∧ OpSd P .sub r := by
  refine ⟨_, op_sub, ?_⟩
  intro F I H σ S x y d e res Q sm tx ty h k
  cases d with
  | int i => cases e with
    | int j =>
      simp only [binD, Option.some.injEq] at h
      subst h
      exact ⟨i, j, tx.int, ty.int, k.imm sm (.int _)⟩
    | _ => simp [binD] at h
  | _ => simp [binD] at h
theorem op_s_mul (hK : X.K = P.K) : ∃ r, OpR X (binaryOp .Mult) r ∧ OpSd P .mul r := by
  refine ⟨_, op_mul.or (op_mulW.or (op_rep.or op_repT)), ?_⟩
  intro F I H σ S x y d e res Q sm tx ty h k
  cases d with
  | int i => cases e with
    | int j =>
      simp only [binD] at h
      split at h
      · rename_i z
        simp only [Option.some.injEq] at h
        subst h
        simp only [mulOk, Bool.or_eq_true, decide_eq_true_eq] at z
        rcases z with (z | z) | z
        · exact .inl ⟨i, j, tx.int, ty.int, .inl ⟨by omega, by omega⟩, k.imm sm (.int _)⟩
        · exact .inl ⟨i, j, tx.int, ty.int, .inr ⟨by omega, by omega⟩, k.imm sm (.int _)⟩
        · exact .inr (.inl ⟨i, j, tx.int, ty.int, z, k.imm sm (.int _)⟩)
      · cases h
    | _ => simp [binD] at h
  | list ds => cases e with
    | int n =>
      simp only [binD] at h
      split at h
      · rename_i z
        simp only [Option.some.injEq] at h
        subst h
        obtain ⟨a, xs, e1, h1, z1, r1⟩ := tx.lst sm.sub
        have l1 := r1.length
        obtain ⟨za, zb, zc⟩ := z
        refine .inr (.inr (.inl ⟨a, n, xs, e1, ty.int, h1, by omega, by omega, le_szl (by rw [l1]; exact zc), fun p hp => k.newL sm hp ?_ (r1.rep _)⟩))
        rw [PyProof.Rows.lm_len_rep_flat, Nat.mul_comm, l1]; exact zc
      · cases h
    | _ => simp [binD] at h
  | tuple ds => cases e with
    | int n =>
      simp only [binD] at h
      split at h
      · rename_i z
        simp only [Option.some.injEq] at h
        subst h
        obtain ⟨a, xs, e1, _, h1, z1, r1⟩ := tx.tup sm.sub
        have l1 := r1.length
        obtain ⟨za, zb, zc, zd, ze⟩ := z
        refine .inr (.inr (.inr ⟨a, n, xs, e1, ty.int, .of h1, ?_, za, zb, by omega, fun p hp => k.newT sm hp ?_ (r1.rep _)⟩))
        · intro q; subst q; simp at l1; omega
        · rw [PyProof.Rows.lm_len_rep_flat, Nat.mul_comm, l1]; exact ze
      · cases h
    | _ => simp [binD] at h
  | _ => simp [binD] at h
theorem op_s_fdiv (hK : X.K = P.K) : ∃ r, OpR X (binaryOp .FloorDiv) r ∧ OpSd P .fdiv r := by
  refine ⟨_, op_fdivN.or op_fdivW, ?_⟩
  intro F I H σ S x y d e res Q sm tx ty h k
  cases d with
  | int i => cases e with
    | int j =>
      simp only [binD] at h
      split at h
      · rename_i z
        simp only [Option.some.injEq] at h
        subst h
        simp only [divOk, Bool.and_eq_true, Bool.or_eq_true, decide_eq_true_eq, bne_iff_ne, ne_eq] at z
        obtain ⟨z0, z | ⟨z1, z2⟩⟩ := z
        · exact .inl ⟨i, j, tx.int, ty.int, ⟨z0, z⟩, k.imm sm (.int _)⟩
        · refine .inr ⟨i, j, tx.int, ty.int, ⟨z1, z2⟩, ?_⟩
          show Q (.int (i / j)) H
          have e : i.fdiv j = i / j := Int.fdiv_eq_ediv_of_nonneg i (by omega)
          rw [← e]
          exact k.imm sm (.int _)
      · cases h
    | _ => simp [binD] at h
  | _ => simp [binD] at h
theorem op_s_mod (hK : X.K = P.K) : ∃ r, OpR X (binaryOp .Mod) r ∧ OpSd P .mod r := by
  refine ⟨_, op_modN, ?_⟩
  intro F I H σ S x y d e res Q sm tx ty h k
  cases d with
  | int i => cases e with
    | int j =>
      simp only [binD] at h
      split at h
      · rename_i z
        simp only [Option.some.injEq] at h
        subst h
        exact ⟨i, j, tx.int, ty.int, z, k.imm sm (.int _)⟩
      · cases h
    | _ => simp [binD] at h
  | _ => simp [binD] at h
theorem op_s_pow (hK : X.K = P.K) : ∃ r, OpR X (binaryOp .Pow) r ∧ OpSd P .pow r := by
  refine ⟨_, op_pow, ?_⟩
  intro F I H σ S x y d e res Q sm tx ty h k
  cases d with
  | int i => cases e with
    | int j =>
      simp only [binD] at h
      split at h
      · rename_i z
        simp only [Option.some.injEq] at h
        subst h
        simp only [powOk, Bool.and_eq_true, decide_eq_true_eq] at z
        exact ⟨i, j, tx.int, ty.int, ⟨z.1.1, z.1.2, z.2⟩, k.imm sm (.int _)⟩
      · cases h
    | _ => simp [binD] at h
  | _ => simp [binD] at h
theorem op_s (hK : X.K = P.K) (o : BOp) : ∃ r, OpR X (binaryOp (opOf o)) r ∧ OpSd P o r := by
  cases o with
  | add => exact op_s_add hK
  | sub => exact op_s_sub hK
  | mul => exact op_s_mul hK
  | fdiv => exact op_s_fdiv hK
  | mod => exact op_s_mod hK
  | pow => exact op_s_pow hK
end
end Ev

set_option Elab.async false
set_option linter.all false
set_option maxRecDepth 100000
set_option maxHeartbeats 4000000
set_option autoImplicit false
/-! Ev3: comparisons, built-ins. -/
namespace Ev
open PySem PySem.Spec PyProof.Rows L2

def copOf : COp → CmpOp
  | .lt => .Lt
  | .le => .LtE
  | .gt => .Gt
  | .ge => .GtE
  | .eq => .Eq
  | .ne => .NotEq
  | .isin => .In
  | .notin => .NotIn
  | .is => .Is
  | .isnot => .IsNot
def CpSd (P : Kx) (o : COp) (r : R2) : Prop := ∀ (F : Addr → Prop) (I H : Hp) (σ : L2.St) (S : Sts) (x y : V) (d e : D) (b : Bool) (Q : VK),
  Sm P F I H σ S → To P I H x d → To P I H y e → cmpD o d e = some b → Q (.bl b) H → r x y H Q
section
variable {P : Kx} {X : Cx}
/-- a comparison of data: what it wants of the two, and what it answers -/
def rData (K : PySem.W.Frag) (ok : D → D → Prop) (g : D → D → Bool) : R2 := fun x y H Q => ∃ d e, Dp K H x d ∧ Dp K H y e ∧ ok d e ∧ Q (.bl (g d e)) H
theorem op_data {op : CmpOp} {ok : D → D → Prop} {g : D → D → Bool}
    (h : ∀ (s : Shared) (v u : Value) (d e : D) (as bs : List Addr) (Q : Value → Shared → Prop), Reads s.heap v d as → Reads s.heap u e bs → ok d e → Q (.bool (g d e)) s → wpAny (model X.prog X.w) X.A (compareOp op v u) Q X.xe s) :
    OpR X (compareOp op) (rData X.K ok g) := by
  intro pins s σ H x y v u Q I rx ry hh
  obtain ⟨d, e, dx, dy, o, q⟩ := hh
  obtain ⟨as, r1⟩ := Dp.reads I d x v dx rx
  obtain ⟨bs, r2⟩ := Dp.reads I e y u dy ry
  exact h s v u d e as bs _ r1 r2 o ⟨.bl _, H, I, rfl, q⟩
def okPP (d e : D) : Prop := plain 60 d = true ∧ plain 60 e = true
def okOrd (d e : D) : Prop := ordOk d e = true
theorem okPP_min {d e : D} (h : okPP d e) : min d.depth e.depth ≤ 60 := by
  have := (plain_depth 60 d h.1).1
  omega
theorem okOrd_all {d e : D} (h : okOrd d e) : PySem.W.alike d e = true ∧ d ≠ .none ∧ min d.depth e.depth ≤ 60 ∧ okPP d e := by
  unfold okOrd ordOk at h
  simp only [Bool.and_eq_true] at h
  obtain ⟨⟨⟨h1, h2⟩, h3⟩, h4⟩ := h
  refine ⟨h1, fun e => ?_, okPP_min ⟨h3, h4⟩, h3, h4⟩
  subst e
  cases h2
theorem op_eqP (hu : X.A.units + 62 < cLine) : OpR X (compareOp .Eq) (rData X.K okPP PyData.eqv) := op_data fun s v u d e as bs Q r1 r2 o q =>
  PySem.SeqAt.eq_plain r1 r2 (plain_depth 60 d o.1).2 (plain_depth 60 e o.2).2 (by have := okPP_min o; omega) q
theorem op_neP (hu : X.A.units + 62 < cLine) : OpR X (compareOp .NotEq) (rData X.K okPP fun d e => !PyData.eqv d e) := op_data fun s v u d e as bs Q r1 r2 o q =>
  PySem.SeqAt.ne_plain r1 r2 (plain_depth 60 d o.1).2 (plain_depth 60 e o.2).2 (by have := okPP_min o; omega) q
theorem op_ltP (hu : X.A.units + 62 < cLine) : OpR X (compareOp .Lt) (rData X.K okOrd fun d e => PySem.W.dataLt d e) := op_data fun s v u d e as bs Q r1 r2 o q => by
  obtain ⟨h1, h2, h3, _⟩ := okOrd_all o
  exact PySem.W.lt_data r1 r2 h1 h2 (by omega) q
theorem op_gtP (hu : X.A.units + 62 < cLine) : OpR X (compareOp .Gt) (rData X.K okOrd fun d e => PySem.W.dataLt e d) := op_data fun s v u d e as bs Q r1 r2 o q => by
  obtain ⟨h1, h2, h3, _⟩ := okOrd_all o
  exact PySem.W.gt_data r1 r2 h1 h2 (by omega) q
theorem op_leP (hu : X.A.units + 62 < cLine) : OpR X (compareOp .LtE) (rData X.K okOrd fun d e => !PySem.W.dataLt e d) := op_data fun s v u d e as bs Q r1 r2 o q => by
  obtain ⟨h1, h2, h3, _⟩ := okOrd_all o
  exact PySem.W.le_data r1 r2 h1 h2 (by omega) q
theorem op_geP (hu : X.A.units + 62 < cLine) : OpR X (compareOp .GtE) (rData X.K okOrd fun d e => !PySem.W.dataLt d e) := op_data fun s v u d e as bs Q r1 r2 o q => by
  obtain ⟨h1, h2, h3, _⟩ := okOrd_all o
  exact PySem.W.ge_data r1 r2 h1 h2 (by omega) q
def okInL (d e : D) : Prop := plain 60 d = true ∧ ∃ ds, e = .list ds ∧ plains 60 ds = true
def okInT (d e : D) : Prop := plain 60 d = true ∧ ∃ ds, e = .tuple ds ∧ plains 60 ds = true
def inAny (d e : D) : Bool := match e with
  | .list ds => ds.any fun z => PyData.eqv z d
  | .tuple ds => ds.any fun z => PyData.eqv z d
  | _ => false
theorem op_inL (hu : X.A.units + 62 < cLine) : OpR X (compareOp .In) (rData X.K okInL inAny) := op_data fun s v u d e as bs Q r1 r2 o q => by
  obtain ⟨h1, ds, rfl, h2⟩ := o
  have := (plain_depth 60 d h1).1
  exact PySem.SeqAt.in_list_data r2 r1 (plains_depth 60 ds h2).2 (plain_depth 60 d h1).2 (by omega) q
theorem op_inT (hu : X.A.units + 62 < cLine) : OpR X (compareOp .In) (rData X.K okInT inAny) := op_data fun s v u d e as bs Q r1 r2 o q => by
  obtain ⟨h1, ds, rfl, h2⟩ := o
  have := (plain_depth 60 d h1).1
  exact PySem.SeqAt.in_tuple_data r2 r1 (plains_depth 60 ds h2).2 (plain_depth 60 d h1).2 (by omega) q
theorem op_ninL (hu : X.A.units + 62 < cLine) : OpR X (compareOp .NotIn) (rData X.K okInL fun d e => !inAny d e) := op_data fun s v u d e as bs Q r1 r2 o q => by
  obtain ⟨h1, ds, rfl, h2⟩ := o
  have := (plain_depth 60 d h1).1
  exact PySem.SeqAt.notIn_list_data r2 r1 (plains_depth 60 ds h2).2 (plain_depth 60 d h1).2 (by omega) q
theorem op_ninT (hu : X.A.units + 62 < cLine) : OpR X (compareOp .NotIn) (rData X.K okInT fun d e => !inAny d e) := op_data fun s v u d e as bs Q r1 r2 o q => by
  obtain ⟨h1, ds, rfl, h2⟩ := o
  have := (plain_depth 60 d h1).1
  exact PySem.SeqAt.notIn_tuple_data r2 r1 (plains_depth 60 ds h2).2 (plain_depth 60 d h1).2 (by omega) q

theorem non_iff {I H : Hp} {x : V} {d : D} (tx : To P I H x d) : x = .non ↔ d = .none := by
  constructor
  · intro e
    subst e
    rcases tx with t | ⟨a, e, _⟩
    · cases t; rfl
    · cases e
  · intro e
    subst e
    exact tx.non
theorem notNone_iff {d : D} : notNone d = false ↔ d = .none := by cases d <;> simp [notNone]
theorem dec_non {I H : Hp} {x : V} {d : D} (tx : To P I H x d) : decide (x = .non) = !notNone d := by
  cases h : notNone d with
  | false => exact decide_eq_true ((non_iff tx).mpr (notNone_iff.mp h))
  | true => exact decide_eq_false fun z => by rw [notNone_iff.mpr ((non_iff tx).mp z)] at h; cases h
/-- an order's comparison: of two numbers, or of data -/
theorem cp_ord {o : COp} {g : Int → Int → Bool} {f : D → D → Bool} (hK : X.K = P.K) (e1 : ∀ i j, cmpD o (.int i) (.int j) = some (g i j)) (e2 : ∀ d e b, cmpD o d e = some b → (∃ i j, d = .int i ∧ e = .int j) ∨ (okOrd d e ∧ b = f d e)) :
    CpSd P o (fun x y H Q => rI0 (fun i j => .bl (g i j)) x y H Q ∨ rData X.K okOrd f x y H Q) := by
  intro F I H σ S x y d e b Q sm tx ty h q
  rcases e2 d e b h with ⟨i, j, rfl, rfl⟩ | ⟨h1, rfl⟩
  · rw [e1] at h
    obtain rfl := Option.some.inj h
    exact .inl ⟨i, j, tx.int, ty.int, q⟩
  · obtain ⟨_, _, _, h3, h4⟩ := okOrd_all h1
    rw [hK]
    exact .inr ⟨d, e, tx.dp sm.sub h3, ty.dp sm.sub h4, h1, q⟩
theorem cp_s (hK : X.K = P.K) (hu : X.A.units + 62 < cLine) (o : COp) : ∃ r, OpR X (compareOp (copOf o)) r ∧ CpSd P o r := by
  cases o with
  | lt =>
    refine ⟨_, op_lt.or (op_ltP hu), cp_ord hK (fun _ _ => rfl) fun d e b h => ?_⟩
    simp only [cmpD] at h
    split at h
    · exact .inl ⟨_, _, rfl, rfl⟩
    · split at h
      · rename_i z
        exact .inr ⟨z, (Option.some.inj h).symm⟩
      · cases h
  | le =>
    refine ⟨_, op_le.or (op_leP hu), cp_ord hK (fun _ _ => rfl) fun d e b h => ?_⟩
    simp only [cmpD] at h
    split at h
    · exact .inl ⟨_, _, rfl, rfl⟩
    · split at h
      · rename_i z
        exact .inr ⟨z, (Option.some.inj h).symm⟩
      · cases h
  | gt =>
    refine ⟨_, op_gt.or (op_gtP hu), cp_ord hK (fun _ _ => rfl) fun d e b h => ?_⟩
    simp only [cmpD] at h
    split at h
    · exact .inl ⟨_, _, rfl, rfl⟩
    · split at h
      · rename_i z
        exact .inr ⟨z, (Option.some.inj h).symm⟩
      · cases h
  | ge =>
    refine ⟨_, op_ge.or (op_geP hu), cp_ord hK (fun _ _ => rfl) fun d e b h => ?_⟩
    simp only [cmpD] at h
    split at h
    · exact .inl ⟨_, _, rfl, rfl⟩
    · split at h
      · rename_i z
        exact .inr ⟨z, (Option.some.inj h).symm⟩
      · cases h
  | eq =>
    refine ⟨_, op_eqP hu, ?_⟩
    intro F I H σ S x y d e b Q sm tx ty h q
    simp only [cmpD] at h
    split at h
    · rename_i z
      simp only [Bool.and_eq_true] at z
      obtain rfl := Option.some.inj h
      rw [hK]
      exact ⟨d, e, tx.dp sm.sub z.1, ty.dp sm.sub z.2, z, q⟩
    · cases h
  | ne =>
    refine ⟨_, op_neP hu, ?_⟩
    intro F I H σ S x y d e b Q sm tx ty h q
    simp only [cmpD] at h
    split at h
    · rename_i z
      simp only [Bool.and_eq_true] at z
      obtain rfl := Option.some.inj h
      rw [hK]
      exact ⟨d, e, tx.dp sm.sub z.1, ty.dp sm.sub z.2, z, q⟩
    · cases h
  | isin =>
    refine ⟨_, (op_inL hu).or (op_inT hu), ?_⟩
    intro F I H σ S x y d e b Q sm tx ty h q
    simp only [cmpD] at h
    split at h
    · split at h
      · rename_i ds z
        simp only [Bool.and_eq_true] at z
        obtain rfl := Option.some.inj h
        rw [hK]
        exact .inl ⟨d, _, tx.dp sm.sub z.1, ty.dp sm.sub (k := 61) (by simpa [plain] using z.2), ⟨z.1, ds, rfl, z.2⟩, q⟩
      · cases h
    · split at h
      · rename_i ds z
        simp only [Bool.and_eq_true] at z
        obtain rfl := Option.some.inj h
        rw [hK]
        exact .inr ⟨d, _, tx.dp sm.sub z.1, ty.dp sm.sub (k := 61) (by simpa [plain] using z.2), ⟨z.1, ds, rfl, z.2⟩, q⟩
      · cases h
    · cases h
  | notin =>
    refine ⟨_, (op_ninL hu).or (op_ninT hu), ?_⟩
    intro F I H σ S x y d e b Q sm tx ty h q
    simp only [cmpD] at h
    split at h
    · split at h
      · rename_i ds z
        simp only [Bool.and_eq_true] at z
        obtain rfl := Option.some.inj h
        rw [hK]
        exact .inl ⟨d, _, tx.dp sm.sub z.1, ty.dp sm.sub (k := 61) (by simpa [plain] using z.2), ⟨z.1, ds, rfl, z.2⟩, q⟩
      · cases h
    · split at h
      · rename_i ds z
        simp only [Bool.and_eq_true] at z
        obtain rfl := Option.some.inj h
        rw [hK]
        exact .inr ⟨d, _, tx.dp sm.sub z.1, ty.dp sm.sub (k := 61) (by simpa [plain] using z.2), ⟨z.1, ds, rfl, z.2⟩, q⟩
      · cases h
    · cases h
  | is =>
    refine ⟨_, op_isN.or op_is_bl, ?_⟩
    intro F I H σ S x y d e b Q sm tx ty h q
    simp only [cmpD] at h
    split at h
    · obtain rfl := Option.some.inj h
      refine .inl ⟨ty.non, ?_⟩
      rw [dec_non tx]; exact q
    · split at h
      · obtain rfl := Option.some.inj h
        exact .inr ⟨_, _, tx.bl, ty.bl, q⟩
      · cases h
    · cases h
  | isnot =>
    refine ⟨_, op_notN.or op_isnot_bl, ?_⟩
    intro F I H σ S x y d e b Q sm tx ty h q
    simp only [cmpD] at h
    split at h
    · obtain rfl := Option.some.inj h
      refine .inl ⟨ty.non, ?_⟩
      rw [dec_non tx, Bool.not_not]; exact q
    · split at h
      · obtain rfl := Option.some.inj h
        exact .inr ⟨_, _, tx.bl, ty.bl, q⟩
      · cases h
    · cases h
end
end Ev

set_option Elab.async false
set_option linter.all false
set_option maxRecDepth 100000
set_option maxHeartbeats 4000000
set_option autoImplicit false
/-! Ev4: built-ins. -/
namespace Ev
open PySem PySem.Spec PyProof.Rows L2

inductive ToAll (P : Kx) (I H : Hp) : List V → List D → Prop where
  | nil : ToAll P I H [] []
  | cons {v : V} {vs : List V} {d : D} {ds : List D} : To P I H v d → ToAll P I H vs ds → ToAll P I H (v :: vs) (d :: ds)
theorem ToAll.one {P : Kx} {I H : Hp} {xs : List V} {d : D} (h : ToAll P I H xs [d]) : ∃ x, xs = [x] ∧ To P I H x d := by
  cases h with
  | cons a b => cases b; exact ⟨_, rfl, a⟩
theorem ToAll.two {P : Kx} {I H : Hp} {xs : List V} {d e : D} (h : ToAll P I H xs [d, e]) : ∃ x y, xs = [x, y] ∧ To P I H x d ∧ To P I H y e := by
  cases h with
  | cons a b => cases b with
    | cons c b => cases b; exact ⟨_, _, rfl, a, c⟩

/-- a list or a tuple, to be read -/
theorem To.seq {P : Kx} {I H : Hp} {v : V} {d : D} {ds : List D} (sub : ∀ a o, I a = some o → H a = some o) (h : To P I H v d) (e : itemsOf d = some ds) :
    ∃ a xs, v = .ref a ∧ (SqL P.K H a xs ∨ SqT P.K H a xs) ∧ xs.length ≤ szl ∧ RpAll P I xs ds ∧ ((d = .list ds ∧ H a = some (.lst xs)) ∨ (d = .tuple ds ∧ H a = some (.tup xs))) := by
  cases d <;> simp [itemsOf] at e
  · subst e
    obtain ⟨a, xs, e1, h1, z, r⟩ := h.lst sub
    exact ⟨a, xs, e1, .inl (.of h1), z, r, .inl ⟨rfl, h1⟩⟩
  · subst e
    obtain ⟨a, xs, e1, _, h1, z, r⟩ := h.tup sub
    exact ⟨a, xs, e1, .inr (.of h1), z, r, .inr ⟨rfl, h1⟩⟩
theorem ints_rp {P : Kx} {I : Hp} : ∀ {xs : List V} {ds : List D} {ns : List Int}, RpAll P I xs ds → intsOf ds = some ns → xs = ns.map V.int
  | _, _, _, .nil, h => by
    simp [intsOf] at h
    subst h
    rfl
  | _, d :: ds, ns, .cons a b, h => by
    cases d <;> simp [intsOf] at h
    obtain ⟨ms, h1, rfl⟩ := h
    cases a
    rw [ints_rp b h1]
    rfl
mutual
theorem fits_rp {P : Kx} {I : Hp} : ∀ {x : V} {d : D}, Rp P I x d → PyData.plain d = true → d.fits63
  | _, .none, _, _ => trivial
  | _, .bool _, _, _ => trivial
  | _, .int _, _, _ => trivial
  | _, .str x, h, _ => by
    cases h with
    | str _ z =>
      simp only [PyData.fits63]
      unfold szl at z
      omega
  | _, .list ds, h, _ => by
    cases h with
    | lst _ z r =>
      have := r.length
      simp only [PyData.fits63]
      unfold szl at z
      omega
  | _, .tuple ds, h, _ => by
    cases h with
    | tup _ z r =>
      have := r.length
      simp only [PyData.fits63]
      unfold szl at z
      omega
  | _, .dict _, _, h => by simp [PyData.plain] at h
end
theorem fits_all {P : Kx} {I : Hp} : ∀ {xs : List V} {ds : List D}, RpAll P I xs ds → PyData.plainAll ds = true → ∀ d ∈ ds, d.fits63
  | _, _, .nil, _, d, hd => by cases hd
  | _, _, .cons a b, h, d, hd => by
    simp only [PyData.plainAll, Bool.and_eq_true] at h
    rcases List.mem_cons.mp hd with rfl | hd
    · exact fits_rp a h.1
    · exact fits_all b h.2 d hd

def biV : Bi → Value
  | .len => .builtin "len"
  | .sum => .builtin "sum"
  | .all => .builtin "all"
  | .any => .builtin "any"
  | .min => .builtin "min"
  | .max => .builtin "max"
  | .abs => .builtin "abs"
  | .sorted => .builtin "sorted"
  | .repr => .builtin "repr"
  | .int => .type "int"
  | .str => .type "str"
  | .tuple => .type "tuple"
  | .list => .type "list"
  | .dict => .type "dict"
  | .set => .type "set"
  | .bool => .type "bool"
/-- a rule that serves a built-in -/
def BiSd (P : Kx) (b : Bi) (r : List V → Hp → VK → Prop) : Prop := ∀ (F : Addr → Prop) (I H : Hp) (σ : L2.St) (S : Sts) (xs : List V) (ds : List D) (res : Bool × D) (Q : VK),
  Sm P F I H σ S → ToAll P I H xs ds → biD b ds = some res → Kt P F I H σ S Q res → r xs H Q

section
variable {P : Kx} {X : Cx}
theorem scr_inv {I H : Hp} {v : V} {es : List D} (sub : ∀ a o, I a = some o → H a = some o) (t : To P I H v (.dict [(.none, .list es)])) : ∃ (a : Addr) (ns : List Int), v = .ref a ∧ es = ns.map PyData.int ∧ SqL P.K H a (ns.map V.int) ∧ ns.length ≤ szl := by
  have nok : ∀ {kvs : List (Key × V)} {d e : D}, ¬ RpK P I kvs [(.none, d)] := fun {kvs d e} r => by
    generalize hd : [((PyData.none : D), d)] = l at r
    cases r with
    | nil => cases hd
    | cons a b =>
      rename_i key v rr e es
      cases key <;> simp [kD] at hd
  have not_ : ∀ {kvs : List (List Key × V)} {d e : D}, ¬ RpT P I kvs [(.none, d)] := fun {kvs d e} r => by
    generalize hd : [((PyData.none : D), d)] = l at r
    cases r with
    | nil => cases hd
    | cons a b => simp at hd
  rcases t with t | ⟨a, e, t⟩
  · generalize hd : (PyData.dict [(PyData.none, PyData.list es)]) = d at t
    cases t with
    | scr h1 z =>
      rename_i a ns
      unfold scrD at hd
      simp only [PyData.dict.injEq, List.cons.injEq, Prod.mk.injEq, PyData.list.injEq, true_and, and_true] at hd
      exact ⟨a, ns, rfl, hd, sqL_mono sub h1, z⟩
    | dk h1 z r =>
      cases hd
      exact (nok (e := .none) r).elim
    | dt h1 z r =>
      cases hd
      exact (not_ (e := .none) r).elim
    | ktp _ _ => simp [ktpD] at hd
    | exc _ => simp [excD] at hd
    | _ => cases hd
  · generalize hd : (PyData.dict [(PyData.none, PyData.list es)]) = d at t
    cases t with
    | of t => cases t with
      | dk h1 z r =>
        cases hd
        exact (nok (e := .none) r).elim
      | dt h1 z r =>
        cases hd
        exact (not_ (e := .none) r).elim
      | _ => cases hd
    | fk h1 z r =>
      cases hd
      exact (nok (e := .none) r).elim
    | ft h1 z r =>
      cases hd
      exact (not_ (e := .none) r).elim
theorem len_inv {ds : List D} {res : Bool × D} (h : biD .len ds = some res) : (∃ es, ds = [.list es] ∧ res = (false, .int es.length)) ∨ (∃ es, ds = [.tuple es] ∧ res = (false, .int es.length)) ∨
    (∃ es, ds = [.dict [(.none, .list es)]] ∧ res = (false, .int es.length)) ∨ ∃ x, ds = [.str x] ∧ res = (false, .int x.length) := by
  unfold biD at h
  split at h <;> first | contradiction | skip
  · exact .inl ⟨_, rfl, (Option.some.inj h).symm⟩
  · exact .inr (.inl ⟨_, rfl, (Option.some.inj h).symm⟩)
  · exact .inr (.inr (.inl ⟨_, rfl, (Option.some.inj h).symm⟩))
  · exact .inr (.inr (.inr ⟨_, rfl, (Option.some.inj h).symm⟩))
theorem bi_len (hK : X.K = P.K) : ∃ r, CallR X (biV .len) r ∧ BiSd P .len r := by
  refine ⟨_, call_len, ?_⟩
  intro F I H σ S xs ds res Q sm tx h k
  rcases len_inv h with ⟨es, rfl, rfl⟩ | ⟨es, rfl, rfl⟩ | ⟨es, rfl, rfl⟩ | ⟨y, rfl, rfl⟩
  · obtain ⟨x, rfl, t⟩ := tx.one
    obtain ⟨a, xs, rfl, h1, z, r⟩ := t.lst sm.sub
    refine ⟨_, xs.length, rfl, .inl ⟨xs, .of h1, rfl⟩, ?_⟩
    rw [r.length]
    exact k.imm sm (.int _)
  · obtain ⟨x, rfl, t⟩ := tx.one
    obtain ⟨a, xs, rfl, _, h1, z, r⟩ := t.tup sm.sub
    refine ⟨_, xs.length, rfl, .inr ⟨xs, .of h1, rfl⟩, ?_⟩
    rw [r.length]
    exact k.imm sm (.int _)
  · obtain ⟨x, rfl, t⟩ := tx.one
    obtain ⟨a, ns, rfl, rfl, h1, z⟩ := scr_inv sm.sub t
    refine ⟨_, ns.length, rfl, .inl ⟨ns.map V.int, ?_, (List.length_map ..).symm⟩, ?_⟩
    · rw [hK]; exact h1
    · rw [List.length_map] at k
      exact k.imm sm (.int _)
  · obtain ⟨x, rfl, t⟩ := tx.one
    obtain ⟨rfl, z⟩ := t.str
    exact ⟨_, y.length, rfl, ⟨le_szl z, rfl⟩, k.imm sm (.int _)⟩

/-! ### sum -/
theorem sum_pre : ∀ (ns : List Int) (k : Nat), k ≤ ns.length → preSum (fun i => ns.getD i 0) k = (ns.take k).sum
  | ns, 0, _ => by simp [preSum]
  | ns, k + 1, h => by
    have e : ns[k]? = some ns[k] := List.getElem?_eq_getElem (by omega)
    have ih := sum_pre ns k (by omega)
    rw [List.take_add_one, e]
    simp only [preSum, Option.toList, List.sum_append, List.sum_cons, List.sum_nil]
    rw [ih, List.getD_eq_getElem?_getD, e]
    simp
def rSumT (K : PySem.W.Frag) : List V → Hp → VK → Prop := fun vs H Q => ∃ (a : Addr) (ns : List Int), vs = [V.ref a] ∧ SqT K H a (ns.map V.int) ∧ Q (.int ns.sum) H
theorem cr_sumT (hc : X.calm = true) : CallR X (.builtin "sum") (rSumT X.K) := by
  intro pins s σ H vs us Q I r h
  obtain ⟨a, ns, rfl, hs, q⟩ := h
  obtain ⟨its, rv, ht, _⟩ := I.tuple hs
  rw [Vals.ref1 r]
  have hi := rv.ints
  have ht' : s.heap.IsTuple a its.toArray := ht
  have hlt : a < s.heap.objs.size := by obtain ⟨o, e, _⟩ := ht'; exact Heap.lt_size e
  refine call_sum_walkG (wpAny_pyIter_tuple ht' ?_)
  refine ⟨_, _, _, _, _, _, fun i => ns.getD i 0, rfl, Walks.tuple (A := X.A.in1) (I.ok.hd hc) _ a (Nat.ne_of_lt hlt) its.toArray, ⟨⟨_, Heap.get?_push_size _ rfl, rfl, rfl⟩, ht'.push _⟩, fun b hb => ?_, fun i v hv => ?_, fun h' tk t' hk => ?_⟩
  · have e : (s.heap.push { cls := .type "tuple_iterator", data := .fields #[.ref a, .int 0 0] }).objs.size = s.heap.objs.size + 1 := Heap.size_push ..
    show b < (s.heap.push { cls := .type "tuple_iterator", data := .fields #[.ref a, .int 0 0] }).objs.size
    rw [e]
    simp only [List.mem_cons, List.not_mem_nil, or_false] at hb
    rcases hb with rfl | rfl
    · exact Nat.lt_succ_self _
    · exact Nat.lt_succ_of_lt hlt
  · have hv' : its[i]? = some v := by simpa using hv
    have hlen : i < its.length := (List.getElem?_eq_some_iff.mp hv').1
    have l2 : ns.length = its.length := by
      have := rv.length
      rw [List.length_map] at this
      exact this
    have hln : i < ns.length := by omega
    have e : (ns.map V.int)[i]? = some (.int ns[i]) := by
      rw [List.getElem?_map, List.getElem?_eq_getElem hln]
      rfl
    obtain ⟨u, h1, h2⟩ := rv.get e
    rw [hv'] at h1
    cases h1
    obtain ⟨t, rfl⟩ := h2
    refine ⟨t, ?_⟩
    show Value.int ns[i] t = Value.int (ns.getD i 0) t
    rw [List.getD_eq_getElem?_getD, List.getElem?_eq_getElem hln]
    rfl
  · refine ⟨.int ns.sum, H, I.kept (t' := tk) fun b o eo => hk b o (fun hm => ?_) (Heap.get?_push_of_some _ eo), ⟨t', ?_⟩, q⟩
    · simp only [List.mem_cons, List.not_mem_nil, or_false] at hm
      subst hm
      exact absurd (Heap.lt_size eo) (Nat.lt_irrefl _)
    · have l2 := rv.length
      rw [List.length_map] at l2
      rw [List.size_toArray, ← l2, sum_pre ns _ (Nat.le_refl _), List.take_length]
theorem bi_sum (hK : X.K = P.K) (hc : X.calm = true) : ∃ r, CallR X (biV .sum) r ∧ BiSd P .sum r := by
  refine ⟨_, (cr_sum hc).or (cr_sumT hc), ?_⟩
  intro F I H σ S xs ds res Q sm tx h k
  unfold biD at h
  split at h <;> first | contradiction | skip
  rename_i d
  rw [Option.map_eq_some_iff] at h
  obtain ⟨ns, h1, rfl⟩ := h
  rw [Option.bind_eq_some_iff] at h1
  obtain ⟨ds', e1, e2⟩ := h1
  obtain ⟨x, rfl, t⟩ := tx.one
  obtain ⟨a, xs, rfl, h2, z, r, _⟩ := t.seq sm.sub e1
  obtain rfl := ints_rp r e2
  rw [hK]
  rcases h2 with h2 | h2
  · exact .inl ⟨a, ns, rfl, h2, k.imm sm (.int _)⟩
  · exact .inr ⟨a, ns, rfl, h2, k.imm sm (.int _)⟩

/-! ### any, all -/
/-- what a rule over data wants: a list or a tuple of data -/
def rSeqD (K : PySem.W.Frag) (g : List D → Bool) : List V → Hp → VK → Prop := fun vs H Q => ∃ (a : Addr) (xs : List V) (ds : List D), vs = [V.ref a] ∧ (SqL K H a xs ∨ SqT K H a xs) ∧ DpAll K H xs ds ∧ PyData.plainAll ds = true ∧ (∀ d ∈ ds, d.fits63) ∧ Q (.bl (g ds)) H
theorem cr_anyD (hc : X.calm = true) : CallR X (.builtin "any") (rSeqD X.K fun ds => ds.any PyData.truthy) := by
  intro pins s σ H vs us Q I r h
  obtain ⟨a, xs, ds, rfl, hs, hd, hp, hf, q⟩ := h
  rw [Vals.ref1 r]
  rcases hs with hs | hs
  · obtain ⟨its, rv, hl, _⟩ := I.list hs
    obtain ⟨as, hr⟩ := Dp.readsAll I ds xs its hd rv
    exact PySem.W.any_list_data (I.ok.hd hc) hl.isList (by simpa using hr) hp hf fun h' tk hk => ⟨.bl _, H, I.kept (t' := tk) hk, rfl, q⟩
  · obtain ⟨its, rv, hl, _⟩ := I.tuple hs
    obtain ⟨as, hr⟩ := Dp.readsAll I ds xs its hd rv
    exact PySem.W.any_tuple_data (I.ok.hd hc) hl (by simpa using hr) hp hf fun h' tk hk => ⟨.bl _, H, I.kept (t' := tk) hk, rfl, q⟩
theorem cr_allD (hc : X.calm = true) : CallR X (.builtin "all") (rSeqD X.K fun ds => ds.all PyData.truthy) := by
  intro pins s σ H vs us Q I r h
  obtain ⟨a, xs, ds, rfl, hs, hd, hp, hf, q⟩ := h
  rw [Vals.ref1 r]
  rcases hs with hs | hs
  · obtain ⟨its, rv, hl, _⟩ := I.list hs
    obtain ⟨as, hr⟩ := Dp.readsAll I ds xs its hd rv
    exact PySem.W.all_list_data (I.ok.hd hc) hl.isList (by simpa using hr) hp hf fun h' tk hk => ⟨.bl _, H, I.kept (t' := tk) hk, rfl, q⟩
  · obtain ⟨its, rv, hl, _⟩ := I.tuple hs
    obtain ⟨as, hr⟩ := Dp.readsAll I ds xs its hd rv
    exact PySem.W.all_tuple_data (I.ok.hd hc) hl (by simpa using hr) hp hf fun h' tk hk => ⟨.bl _, H, I.kept (t' := tk) hk, rfl, q⟩
theorem bi_any (hK : X.K = P.K) (hc : X.calm = true) : ∃ r, CallR X (biV .any) r ∧ BiSd P .any r := by
  refine ⟨_, cr_anyD hc, ?_⟩
  intro F I H σ S xs ds res Q sm tx h k
  unfold biD at h
  split at h <;> first | contradiction | skip
  split at h <;> first | contradiction | skip
  split at h <;> first | contradiction | skip
  rename_i d _ ds' e1 hp
  obtain rfl := Option.some.inj h
  obtain ⟨x, rfl, t⟩ := tx.one
  obtain ⟨a, xs, rfl, h2, z, r, _⟩ := t.seq sm.sub e1
  have hp' := (plains_depth 60 ds' hp).2
  rw [hK]
  exact ⟨a, xs, ds', rfl, h2, r.dp sm.sub 60 _ _ hp, hp', fits_all r hp', k.imm sm (.bl _)⟩
theorem bi_all (hK : X.K = P.K) (hc : X.calm = true) : ∃ r, CallR X (biV .all) r ∧ BiSd P .all r := by
  refine ⟨_, cr_allD hc, ?_⟩
  intro F I H σ S xs ds res Q sm tx h k
  unfold biD at h
  split at h <;> first | contradiction | skip
  split at h <;> first | contradiction | skip
  split at h <;> first | contradiction | skip
  rename_i d _ ds' e1 hp
  obtain rfl := Option.some.inj h
  obtain ⟨x, rfl, t⟩ := tx.one
  obtain ⟨a, xs, rfl, h2, z, r, _⟩ := t.seq sm.sub e1
  have hp' := (plains_depth 60 ds' hp).2
  rw [hK]
  exact ⟨a, xs, ds', rfl, h2, r.dp sm.sub 60 _ _ hp, hp', fits_all r hp', k.imm sm (.bl _)⟩

/-! ### min, max -/
theorem alikeB_all {ds : List D} (h : alikeB ds = true) : PySem.W.AlikeAll ds := by
  unfold alikeB at h
  simp only [Bool.and_eq_true, List.all_eq_true] at h
  refine ⟨fun x hx y hy => h.1 x hx y hy, fun x hx e => ?_⟩
  have := h.2 x hx
  subst e
  cases this
/-- the least (greatest) item of a list or a tuple of data, at some place -/
def rBest (K : PySem.W.Frag) (g : D → List D → D) : List V → Hp → VK → Prop := fun vs H Q => ∃ (a : Addr) (xs : List V) (d : D) (ds : List D), vs = [V.ref a] ∧ (SqL K H a xs ∨ SqT K H a xs) ∧ DpAll K H xs (d :: ds) ∧ alikeB (d :: ds) = true ∧ plains 60 (d :: ds) = true ∧
  ∀ (i : Nat) (x : V), xs[i]? = some x → (d :: ds)[i]? = some (g d ds) → Q x H
theorem dpAll_get {K : PySem.W.Frag} {H : Hp} : ∀ {xs : List V} {ds : List D} {i : Nat} {x : V}, DpAll K H xs ds → xs[i]? = some x → ∃ d, ds[i]? = some d ∧ Dp K H x d
  | _, _, _, _, .nil, h => by simp at h
  | _, _, 0, _, .cons a _, h => by simp at h; subst h; exact ⟨_, rfl, a⟩
  | _, _, i + 1, x, .cons _ b, h => by
    obtain ⟨d, h1, h2⟩ := dpAll_get (i := i) (x := x) b (by simpa using h)
    exact ⟨d, by simpa using h1, h2⟩
theorem plains_mem : ∀ {k : Nat} {ds : List D}, plains k ds = true → ∀ d ∈ ds, plain k d = true
  | _, [], _, d, h => by cases h
  | k, e :: ds, hp, d, h => by
    simp only [plains, Bool.and_eq_true] at hp
    rcases List.mem_cons.mp h with rfl | h
    · exact hp.1
    · exact plains_mem hp.2 d h
theorem best_mem {f : D → D → D} (hf : ∀ a y, f a y = a ∨ f a y = y) : ∀ (ds : List D) (d : D), ds.foldl f d ∈ d :: ds
  | [], d => by simp
  | e :: ds, d => by
    rw [List.foldl_cons]
    have := best_mem hf ds (f d e)
    rcases hf d e with h | h
    · rw [h] at this ⊢
      rcases List.mem_cons.mp this with z | z
      · rw [z]; simp
      · simp [z]
    · rw [h] at this ⊢
      rcases List.mem_cons.mp this with z | z
      · rw [z]; simp
      · simp [z]
theorem minD_mem (d : D) (ds : List D) : PySem.W.minD d ds ∈ d :: ds := best_mem (fun a y => by by_cases h : PySem.W.dataLt y a = true <;> simp [h]) ds d
theorem maxD_mem (d : D) (ds : List D) : PySem.W.maxD d ds ∈ d :: ds := best_mem (fun a y => by by_cases h : PySem.W.dataLt a y = true <;> simp [h]) ds d
theorem cr_bestOf {id : String} {g : D → List D → D} (hg : ∀ d ds, g d ds ∈ d :: ds) (hu : X.A.units + 64 < cLine)
    (hL : ∀ (s : Shared) (l : Addr) (vs : Array Value) (x : D) (xs : List D) (as : List Addr) (Q : Value → Shared → Prop), X.A.handled = none → s.heap.IsList l vs → ReadsAll s.heap vs.toList (x :: xs) as → PySem.W.AlikeAll (x :: xs) → X.A.units + 1 + PyData.depthAll (x :: xs) < cLine →
      (∀ (i : Nat) v h' tk bs, vs[i]? = some v → Reads h' v (g x xs) bs → (∀ b o, s.heap.get? b = some o → h'.get? b = some o) → Q v { s with heap := h', toks := tk }) → wpAny (model X.prog X.w) X.A (call (.builtin id) [.ref l]) Q X.xe s)
    (hT : ∀ (s : Shared) (l : Addr) (vs : Array Value) (x : D) (xs : List D) (as : List Addr) (Q : Value → Shared → Prop), X.A.handled = none → s.heap.IsTuple l vs → ReadsAll s.heap vs.toList (x :: xs) as → PySem.W.AlikeAll (x :: xs) → X.A.units + 1 + PyData.depthAll (x :: xs) < cLine →
      (∀ (i : Nat) v h' tk bs, vs[i]? = some v → Reads h' v (g x xs) bs → (∀ b o, s.heap.get? b = some o → h'.get? b = some o) → Q v { s with heap := h', toks := tk }) → wpAny (model X.prog X.w) X.A (call (.builtin id) [.ref l]) Q X.xe s)
    (hc : X.calm = true) : CallR X (.builtin id) (rBest X.K g) := by
  intro pins s σ H vs us Q I r h
  obtain ⟨a, xs, d, ds, rfl, hs, hd, ha, hp, q⟩ := h
  rw [Vals.ref1 r]
  have hdep := (plains_depth 60 _ hp).1
  have go : ∀ (its : List Value) (as : List Addr), Vals xs its → ReadsAll s.heap its (d :: ds) as → ∀ (i : Nat) (v : Value) (h' : Heap) (tk : Nat) (bs : List Addr), its.toArray[i]? = some v → Reads h' v (g d ds) bs → (∀ b o, s.heap.get? b = some o → h'.get? b = some o) → EP X pins σ Q v { s with heap := h', toks := tk } := by
    intro its as rv hr i v h' tk bs hv hR hk
    have hv' : its[i]? = some v := by simpa using hv
    have hlen : i < xs.length := by rw [rv.length]; exact (List.getElem?_eq_some_iff.mp hv').1
    obtain ⟨u, h1, h2⟩ := rv.get (List.getElem?_eq_getElem hlen)
    rw [hv'] at h1
    cases h1
    obtain ⟨e, e1, e2⟩ := dpAll_get hd (List.getElem?_eq_getElem hlen)
    obtain ⟨cs, r1⟩ := Dp.reads I e _ v e2 h2
    have p1 : PyData.plain e = true := (plain_depth 60 e (plains_mem hp e (List.mem_of_getElem? e1))).2
    have p2 : PyData.plain (g d ds) = true := (plain_depth 60 _ (plains_mem hp _ (hg d ds))).2
    have r2 := PySem.SeqAt.readOf_plain p1 (PyProof.Rows.Reads.keeps hk r1)
    have r3 := PySem.SeqAt.readOf_plain p2 hR
    rw [r3] at r2
    exact ⟨xs[i], H, I.kept (t' := tk) hk, h2, q i _ (List.getElem?_eq_getElem hlen) (by rw [e1, r2])⟩
  rcases hs with hs | hs
  · obtain ⟨its, rv, hl, _⟩ := I.list hs
    obtain ⟨as, hr⟩ := Dp.readsAll I _ xs its hd rv
    exact hL s a its.toArray d ds as _ (I.ok.hd hc) hl.isList (by simpa using hr) (alikeB_all ha) (by omega) (go its as rv hr)
  · obtain ⟨its, rv, hl, _⟩ := I.tuple hs
    obtain ⟨as, hr⟩ := Dp.readsAll I _ xs its hd rv
    exact hT s a its.toArray d ds as _ (I.ok.hd hc) hl (by simpa using hr) (alikeB_all ha) (by omega) (go its as rv hr)
theorem cr_minD (hc : X.calm = true) (hu : X.A.units + 64 < cLine) : CallR X (.builtin "min") (rBest X.K PySem.W.minD) :=
  cr_bestOf minD_mem hu (fun _ _ _ _ _ _ _ h1 h2 h3 h4 h5 h6 => PySem.W.min_list_data h1 h2 h3 h4 h5 h6) (fun _ _ _ _ _ _ _ h1 h2 h3 h4 h5 h6 => PySem.W.min_tuple_data h1 h2 h3 h4 h5 h6) hc
theorem cr_maxD (hc : X.calm = true) (hu : X.A.units + 64 < cLine) : CallR X (.builtin "max") (rBest X.K PySem.W.maxD) :=
  cr_bestOf maxD_mem hu (fun _ _ _ _ _ _ _ h1 h2 h3 h4 h5 h6 => PySem.W.max_list_data h1 h2 h3 h4 h5 h6) (fun _ _ _ _ _ _ _ h1 h2 h3 h4 h5 h6 => PySem.W.max_tuple_data h1 h2 h3 h4 h5 h6) hc
theorem min_inv {ds : List D} {res : Bool × D} (h : biD .min ds = some res) : (∃ i j, ds = [.int i, .int j] ∧ res = (false, .int (if j < i then j else i))) ∨
    ∃ d x xs, ds = [d] ∧ itemsOf d = some (x :: xs) ∧ alikeB (x :: xs) = true ∧ plains 60 (x :: xs) = true ∧ res = (false, PySem.W.minD x xs) := by
  unfold biD at h
  split at h <;> first | contradiction | skip
  · split at h <;> first | contradiction | skip
    split at h <;> first | contradiction | skip
    rename_i h1 h2
    simp only [Bool.and_eq_true] at h2
    exact .inr ⟨_, _, _, rfl, h1, h2.1, h2.2, (Option.some.inj h).symm⟩
  · exact .inl ⟨_, _, rfl, (Option.some.inj h).symm⟩
theorem max_inv {ds : List D} {res : Bool × D} (h : biD .max ds = some res) : (∃ i j, ds = [.int i, .int j] ∧ res = (false, .int (if j > i then j else i))) ∨
    ∃ d x xs, ds = [d] ∧ itemsOf d = some (x :: xs) ∧ alikeB (x :: xs) = true ∧ plains 60 (x :: xs) = true ∧ res = (false, PySem.W.maxD x xs) := by
  unfold biD at h
  split at h <;> first | contradiction | skip
  · split at h <;> first | contradiction | skip
    split at h <;> first | contradiction | skip
    rename_i h1 h2
    simp only [Bool.and_eq_true] at h2
    exact .inr ⟨_, _, _, rfl, h1, h2.1, h2.2, (Option.some.inj h).symm⟩
  · exact .inl ⟨_, _, rfl, (Option.some.inj h).symm⟩
theorem bi_min (hK : X.K = P.K) (hc : X.calm = true) (hu : X.A.units + 64 < cLine) : ∃ r, CallR X (biV .min) r ∧ BiSd P .min r := by
  refine ⟨_, (call_min2 hc).or (cr_minD hc hu), ?_⟩
  intro F I H σ S xs ds res Q sm tx h k
  rcases min_inv h with ⟨i, j, rfl, rfl⟩ | ⟨d, y, ys, rfl, e1, e2, e3, rfl⟩
  · obtain ⟨x, y, rfl, t1, t2⟩ := tx.two
    rw [t1.int, t2.int]
    exact .inl ⟨i, j, rfl, k.imm sm (.int _)⟩
  · obtain ⟨x, rfl, t⟩ := tx.one
    obtain ⟨a, xs, rfl, h2, z, r, _⟩ := t.seq sm.sub e1
    rw [hK]
    refine .inr ⟨a, xs, y, ys, rfl, h2, r.dp sm.sub 60 _ _ e3, e2, e3, fun i x hx hi => ?_⟩
    obtain ⟨d', g1, g2⟩ := r.getV hx
    rw [hi] at g1
    cases g1
    exact k.imm sm g2
theorem bi_max (hK : X.K = P.K) (hc : X.calm = true) (hu : X.A.units + 64 < cLine) : ∃ r, CallR X (biV .max) r ∧ BiSd P .max r := by
  refine ⟨_, (call_max2 hc).or (cr_maxD hc hu), ?_⟩
  intro F I H σ S xs ds res Q sm tx h k
  rcases max_inv h with ⟨i, j, rfl, rfl⟩ | ⟨d, y, ys, rfl, e1, e2, e3, rfl⟩
  · obtain ⟨x, y, rfl, t1, t2⟩ := tx.two
    rw [t1.int, t2.int]
    exact .inl ⟨i, j, rfl, k.imm sm (.int _)⟩
  · obtain ⟨x, rfl, t⟩ := tx.one
    obtain ⟨a, xs, rfl, h2, z, r, _⟩ := t.seq sm.sub e1
    rw [hK]
    refine .inr ⟨a, xs, y, ys, rfl, h2, r.dp sm.sub 60 _ _ e3, e2, e3, fun i x hx hi => ?_⟩
    obtain ⟨d', g1, g2⟩ := r.getV hx
    rw [hi] at g1
    cases g1
    exact k.imm sm g2
/-! ### numbers, tuple, list, repr -/
theorem bi_abs : ∃ r, CallR X (biV .abs) r ∧ BiSd P .abs r := by
  refine ⟨_, call_abs, ?_⟩
  intro F I H σ S xs ds res Q sm tx h k
  unfold biD at h
  split at h <;> first | contradiction | skip
  obtain rfl := Option.some.inj h
  obtain ⟨x, rfl, t⟩ := tx.one
  rw [t.int]
  exact ⟨_, rfl, k.imm sm (.int _)⟩
theorem bi_int : ∃ r, CallR X (biV .int) r ∧ BiSd P .int r := by
  refine ⟨_, call_int1, ?_⟩
  intro F I H σ S xs ds res Q sm tx h k
  unfold biD at h
  split at h <;> first | contradiction | skip
  · obtain rfl := Option.some.inj h
    obtain ⟨x, rfl, t⟩ := tx.one
    rw [t.int]
    exact .inl ⟨_, rfl, k.imm sm (.int _)⟩
  · obtain rfl := Option.some.inj h
    obtain ⟨x, rfl, t⟩ := tx.one
    rw [t.bl]
    exact .inr ⟨_, rfl, k.imm sm (.int _)⟩
theorem bi_tuple (hK : X.K = P.K) : ∃ r, CallR X (biV .tuple) r ∧ BiSd P .tuple r := by
  refine ⟨_, call_tuple_of, ?_⟩
  intro F I H σ S xs ds res Q sm tx h k
  unfold biD at h
  split at h <;> first | contradiction | skip
  · obtain rfl := Option.some.inj h
    obtain ⟨x, rfl, t⟩ := tx.one
    obtain ⟨a, xs, rfl, h1, z, r⟩ := t.lst sm.sub
    exact ⟨a, xs, rfl, .inl ⟨.of h1, fun l hl => k.newT sm hl z r⟩⟩
  · obtain rfl := Option.some.inj h
    obtain ⟨x, rfl, t⟩ := tx.one
    obtain ⟨a, xs, rfl, hi, h1, z, r⟩ := t.tup sm.sub
    exact ⟨a, xs, rfl, .inr ⟨.of h1, k.imm sm (.tup hi z r)⟩⟩
theorem bi_list (hK : X.K = P.K) : ∃ r, CallR X (biV .list) r ∧ BiSd P .list r := by
  refine ⟨_, call_list_of, ?_⟩
  intro F I H σ S xs ds res Q sm tx h k
  unfold biD at h
  split at h <;> first | contradiction | skip
  · obtain rfl := Option.some.inj h
    obtain ⟨x, rfl, t⟩ := tx.one
    obtain ⟨a, xs, rfl, h1, z, r⟩ := t.lst sm.sub
    exact ⟨a, xs, rfl, .inl (.of h1), fun l hl => k.newL sm hl z r⟩
  · obtain rfl := Option.some.inj h
    obtain ⟨x, rfl, t⟩ := tx.one
    obtain ⟨a, xs, rfl, hi, h1, z, r⟩ := t.tup sm.sub
    exact ⟨a, xs, rfl, .inr (.of h1), fun l hl => k.newL sm hl z r⟩
mutual
theorem noDict_plain : ∀ (d : D), PyData.plain d = true → d.hasDict = false
  | .none, _ => rfl
  | .bool _, _ => rfl
  | .int _, _ => rfl
  | .str _, _ => rfl
  | .list ds, h => by
    simp only [PyData.hasDict]
    exact noDict_plains ds (by simpa [PyData.plain] using h)
  | .tuple ds, h => by
    simp only [PyData.hasDict]
    exact noDict_plains ds (by simpa [PyData.plain] using h)
  | .dict _, h => by simp [PyData.plain] at h
theorem noDict_plains : ∀ (ds : List D), PyData.plainAll ds = true → PyData.hasDictAll ds = false
  | [], _ => rfl
  | d :: ds, h => by
    simp only [PyData.plainAll, Bool.and_eq_true] at h
    simp only [PyData.hasDictAll, noDict_plain d h.1, noDict_plains ds h.2, Bool.or_self]
end
def rRepr (K : PySem.W.Frag) : List V → Hp → VK → Prop := fun vs H Q => ∃ (a : Addr) (d : D), vs = [.ref a] ∧ Dp K H (.ref a) d ∧ plain 60 d = true ∧ d.showable = true ∧ d.shown.length ≤ szl ∧ Q (.str d.shown) H
theorem cr_repr (hg : X.A.guards = some []) (hu : X.A.units + 64 < cLine) : CallR X (.builtin "repr") (rRepr X.K) := by
  intro pins s σ H vs us Q I r h
  obtain ⟨a, d, rfl, hd, hp, hs, hz, q⟩ := h
  rw [Vals.ref1 r]
  obtain ⟨as, hr⟩ := Dp.reads I d (.ref a) (.ref a) hd rfl
  obtain ⟨h1, h2⟩ := plain_depth 60 d hp
  have nd := noDict_plain d h2
  exact repr_of_reads' hr hs (fun e => by rw [nd] at e; cases e) hg (by omega) (fun _ _ e => e) (fun h' u tk hk => ⟨.str d.shown, H, I.kept (t' := tk) hk, ⟨u, rfl⟩, q⟩) (le_szl hz)
theorem repr_inv {ds : List D} {res : Bool × D} (h : biD .repr ds = some res) : ∃ d, ds = [d] ∧ plain 60 d = true ∧ d.showable = true ∧ d.shown.length ≤ szl ∧ isSeqD d = true ∧ res = (false, .str d.shown) := by
  unfold biD at h
  split at h <;> first | contradiction | skip
  split at h <;> first | contradiction | skip
  rename_i h1
  simp only [Bool.and_eq_true, decide_eq_true_eq] at h1
  exact ⟨_, rfl, h1.1.1.1, h1.1.1.2, h1.1.2, h1.2, (Option.some.inj h).symm⟩
theorem seq_ref {I H : Hp} {x : V} {d : D} (sub : ∀ a o, I a = some o → H a = some o) (t : To P I H x d) (h : isSeqD d = true) : ∃ a, x = V.ref a := by
  cases d <;> simp [isSeqD] at h
  · obtain ⟨a, _, e, _⟩ := t.lst sub; exact ⟨a, e⟩
  · obtain ⟨a, _, e, _⟩ := t.tup sub; exact ⟨a, e⟩
theorem bi_repr (hK : X.K = P.K) (hg : X.A.guards = some []) (hu : X.A.units + 64 < cLine) : ∃ r, CallR X (biV .repr) r ∧ BiSd P .repr r := by
  refine ⟨_, cr_repr hg hu, ?_⟩
  intro F I H σ S xs ds res Q sm tx h k
  obtain ⟨d, rfl, h1, h2, h3, h4, rfl⟩ := repr_inv h
  obtain ⟨x, rfl, t⟩ := tx.one
  obtain ⟨a, rfl⟩ := seq_ref sm.sub t h4
  rw [hK]
  exact ⟨a, _, rfl, t.dp sm.sub h1, h1, h2, h3, k.imm sm (.str _ h3)⟩
/-! ### all of them -/
/-- what a body's frame is known to be -/
structure Rm (P : Kx) (X : Cx) : Prop where
  hK : X.K = P.K
  calm : X.calm = true
  gd : X.A.guards = some []
  un : X.A.units + 100 < cLine
/-- the built-ins that have a rule here -/
def hasBi : Bi → Bool
  | .len | .sum | .all | .any | .min | .max | .abs | .int | .tuple | .list | .repr => true
  | _ => false
theorem bi_s (h : Rm P X) (b : Bi) (hb : hasBi b = true) : ∃ r, CallR X (biV b) r ∧ BiSd P b r := by
  have hu := h.un
  cases b with
  | len => exact bi_len h.hK
  | sum => exact bi_sum h.hK h.calm
  | all => exact bi_all h.hK h.calm
  | any => exact bi_any h.hK h.calm
  | min => exact bi_min h.hK h.calm (by omega)
  | max => exact bi_max h.hK h.calm (by omega)
  | abs => exact bi_abs
  | int => exact bi_int
  | tuple => exact bi_tuple h.hK
  | list => exact bi_list h.hK
  | repr => exact bi_repr h.hK h.gd (by omega)
  | _ => cases hb
end
end Ev

set_option Elab.async false
set_option linter.all false
set_option maxRecDepth 100000
set_option maxHeartbeats 4000000
set_option autoImplicit false
/-! Ev5: readings that follow the evaluator; the look at an expression; each form's rule. -/
namespace L2
open PySem PySem.Spec PyProof.Rows
theorem PE.weak {X : Cx} {e : Expr} {t t' : TE} (h : PE X e t) (q : ∀ σ H Q, t' σ H Q → t σ H Q) : PE X e t' := ⟨fun pins s σ H Q I hw => h.run pins s σ H Q I (q σ H Q hw)⟩
theorem PT.weak {X : Cx} {e : Expr} {t t' : TT} (h : PT X e t) (q : ∀ σ H Q, t' σ H Q → t σ H Q) : PT X e t' := ⟨fun pins s σ H Q I hw => h.run pins s σ H Q I (q σ H Q hw)⟩
theorem PW.weak {X : Cx} {e : Expr} {t t' : TT} (h : PW X e t) (q : ∀ σ H Q, t' σ H Q → t σ H Q) : PW X e t' := ⟨fun wh pins s σ H Q I hw => h.run wh pins s σ H Q I (q σ H Q hw)⟩
theorem PA.weak {X : Cx} {es : List Expr} {t t' : TA} (h : PA X es t) (q : ∀ σ H Q, t' σ H Q → t σ H Q) : PA X es t' := ⟨fun pos pins s σ H Q I hw => h.run pos pins s σ H Q I (q σ H Q hw)⟩

end L2
namespace Ev
open PySem PySem.Spec PyProof.Rows L2

/-- behind r: where it ends, k is wanted; where an exception leaves, W -/
def Po (P : Kx) (F : Addr → Prop) (I H : Hp) (σ : L2.St) (W : WX) {α : Type} (r : Rs α) (k : α → Sts → Hp → Hp → Prop) : Prop := match r with
  | .ok a S' => ∀ I' H', Ext F I H I' H' → Sm P F I' H' σ S' → k a S' I' H'
  | .ex c S' => ∀ I' H', Ext F I H I' H' → Sm P F I' H' σ S' → W (.ref (P.cl c)) none σ H'
  | .bad => False
section
variable {P : Kx} {F : Addr → Prop} {I H I1 H1 : Hp} {σ : L2.St} {W : WX} {α β : Type} {S : Sts}
theorem Po.mono {r : Rs α} {k k' : α → Sts → Hp → Hp → Prop} (h : Po P F I H σ W r k) (q : ∀ a S' I' H', Ext F I H I' H' → Sm P F I' H' σ S' → k a S' I' H' → k' a S' I' H') : Po P F I H σ W r k' := by
  cases r with
  | ok a S' => exact fun I' H' e m => q a S' I' H' e m (h I' H' e m)
  | ex c S' => exact h
  | bad => exact h
/-- from a later state -/
theorem Po.shift {r : Rs α} {k : α → Sts → Hp → Hp → Prop} (e : Ext F I H I1 H1) (h : Po P F I H σ W r k) : Po P F I1 H1 σ W r k := by
  cases r with
  | ok a S' => exact fun I' H' e' m => h I' H' (e.trans e') m
  | ex c S' => exact fun I' H' e' m => h I' H' (e.trans e') m
  | bad => exact h
theorem Po.bind {r : Rs α} {f : α → Sts → Rs β} {k : β → Sts → Hp → Hp → Prop} (h : Po P F I H σ W (r.bind f) k) : Po P F I H σ W r fun a S1 I1 H1 => Po P F I1 H1 σ W (f a S1) k := by
  cases r with
  | ok a S' => exact fun I' H' e m => Po.shift e h
  | ex c S' => exact h
  | bad => exact h
/-- with more that is not to be touched -/
theorem Po.frame {F' : Addr → Prop} {r : Rs α} {k : α → Sts → Hp → Hp → Prop} (h : Po P F I H σ W r k) (hf : ∀ x, F x → F' x) : Po P F' I H σ W r fun a S' I' H' => Sm P F I' H' σ S' → k a S' I' H' := by
  cases r with
  | ok a S' => exact fun I' H' e m m' => h I' H' (e.weak hf) m'
  | ex c S' => exact fun I' H' e m => h I' H' (e.weak hf) (m.weak hf)
  | bad => exact h
theorem Po.ok {a : α} {k : α → Sts → Hp → Hp → Prop} (h : Po P F I H σ W (.ok a S) k) (m : Sm P F I H σ S) : k a S I H := h I H .refl m
theorem Po.opt {o : Option α} {k : α → Sts → Hp → Hp → Prop} (h : Po P F I H σ W (ofOpt o S) k) : ∃ a, o = some a ∧ ∀ I' H', Ext F I H I' H' → Sm P F I' H' σ S → k a S I' H' := by
  cases o with
  | none => exact h.elim
  | some a => exact ⟨a, rfl, h⟩
end

/-! ### readings -/
/-- a value -/
def tE (P : Kx) (G : Gl) (W : WX) (c : CE) : TE := fun σ H Q => ∃ F I S, Sm P F I H σ S ∧ Po P F I H σ W (ev G c S) fun r S' I' H' => ∀ v, Tv P F I' H' σ S' v r → Q v H'
/-- an operand's value: a name's is what stands at its slot -/
def Ov (P : Kx) (F : Addr → Prop) (I H : Hp) (σ : L2.St) (S : Sts) (a : CE) (v : V) (r : Bool × D) : Prop := match a with
  | .var i => σ[i]? = some (some v) ∧ To P I H v r.2
  | _ => Tv P F I H σ S v r
def tO (P : Kx) (G : Gl) (W : WX) (c : CE) : TE := fun σ H Q => ∃ F I S, Sm P F I H σ S ∧ Po P F I H σ W (opE c (ev G c) S) fun r S' I' H' => ∀ v, Ov P F I' H' σ S' c v r → Q v H'
def tT (P : Kx) (G : Gl) (W : WX) (c : CE) : TT := fun σ H Q => ∃ F I S, Sm P F I H σ S ∧ Po P F I H σ W (evT G c S) fun b S' I' H' => Q b H'

/-! ### slots read -/
section
variable {P : Kx} {F : Addr → Prop} {I H I1 H1 : Hp} {σ : L2.St} {S S1 : Sts} {v : V} {d : D} {i : Nat} {a : CE} {r : Bool × D}
theorem rd_to (m : Sm P F I H σ S) (h : rdS S i = some d) : ∃ v, σ[i]? = some (some v) ∧ To P I H v d := by
  unfold rdS at h
  split at h
  · rename_i e hs
    cases h
    obtain ⟨v, h1, h2⟩ := m.shr i d hs
    exact ⟨v, h1, .inl h2⟩
  · rename_i e hs
    cases h
    obtain ⟨a, h1, _, _, h2, _⟩ := m.own i d (ow_own hs)
    exact ⟨_, h1, .inr ⟨a, rfl, h2⟩⟩
  · rename_i e hs
    cases h
    obtain ⟨a, h1, _, _, h2, _⟩ := m.own i d (lk_own hs)
    exact ⟨_, h1, .inr ⟨a, rfl, h2⟩⟩
  · cases h
/-- what may not be touched while the next operand is reckoned -/
def addF (F : Addr → Prop) (a : CE) (v : V) (r : Bool × D) : Addr → Prop := match a with
  | .var _ => F
  | _ => fun x => F x ∨ (r.1 = true ∧ v = .ref x)
theorem addF_sub {x : Addr} (h : F x) : addF F a v r x := by
  unfold addF
  split
  · exact h
  · exact .inl h
theorem Ov.more (m : Sm P F I H σ S) (h : Ov P F I H σ S a v r) : Sm P (addF F a v r) I H σ S := by
  unfold addF
  split
  · exact m
  · rename_i hv
    refine m.more fun x hx => ?_
    rcases hx with hx | ⟨h1, h2⟩
    · exact .inl hx
    · have h' : Tv P F I H σ S v r := by
        unfold Ov at h
        split at h
        · exact absurd rfl (hv _)
        · exact h
      unfold Tv at h'
      rw [if_pos h1] at h'
      obtain ⟨b, e1, n, f, o, oc⟩ := h'
      rw [h2] at e1
      cases e1
      exact .inr ⟨n, oc.nt, o⟩
/-- an operand where it is used -/
theorem late_to (m0 : Sm P F I H σ S) (h : Ov P F I H σ S a v r) (x : Ext (addF F a v r) I H I1 H1) (m1 : Sm P F I1 H1 σ S1) (e : late a r.2 S1 = some d) : To P I1 H1 v d := by
  unfold late at e
  unfold Ov at h
  split at e
  · obtain ⟨w, h1, h2⟩ := rd_to m1 e
    rw [h.1] at h1
    cases h1
    exact h2
  · rename_i hv
    cases e
    split at h
    · exact absurd rfl (hv _)
    · unfold Tv at h
      split at h
      · rename_i hr
        obtain ⟨b, e1, n, f, o, oc⟩ := h
        have hF : addF F a v r b := by
          unfold addF
          split
          · exact absurd rfl (hv _)
          · exact .inr ⟨hr, e1⟩
        exact .inr ⟨b, e1, .of (oc.mono x.same (x.keep b hF))⟩
      · exact .inl (h.mono x.same)
theorem late1_some {α : Type} {f : D → Option α} {x : α} (h : late1 a d S f = some x) : ∃ d', late a d S = some d' ∧ f d' = some x := by
  unfold late1 at h
  split at h
  · exact ⟨_, by assumption, h⟩
  · cases h
theorem late2_some {α : Type} {b : CE} {e : D} {f : D → D → Option α} {x : α} (h : late2 a b d e S f = some x) : ∃ d' e', late a d S = some d' ∧ late b e S = some e' ∧ f d' e' = some x := by
  unfold late2 at h
  split at h
  · exact ⟨_, _, by assumption, by assumption, h⟩
  · cases h
end

/-! ### names and constants -/
section
variable {P : Kx} {G : Gl} {W : WX} {X : Cx}
theorem e_var {i : Nat} {x : Str} {pos : Pos} (hN : X.N[i]? = some x) (hv : Vis X.env.scope x) (hd : (x == ("__debug__" : Str)) = false) (hcd : (x == ("__classdict__" : Str)) = false) : PE X (.Name x pos) (tE P G W (.var i)) := by
  refine (pe_var hN hv hd hcd).weak fun σ H Q ⟨F, I, S, m, h⟩ => ?_
  simp only [ev, valS] at h
  split at h
  · rename_i d hs
    obtain ⟨v, h1, h2⟩ := m.shr i d hs
    exact ⟨v, h1, h.ok m v (.of h2)⟩
  · rename_i d hs
    obtain ⟨a, I', e, m', x, r⟩ := m.share hs
    exact ⟨_, e, h I' H x m' _ (.of r)⟩
  · exact h.elim
theorem o_var {i : Nat} {x : Str} {pos : Pos} (hN : X.N[i]? = some x) (hv : Vis X.env.scope x) (hd : (x == ("__debug__" : Str)) = false) (hcd : (x == ("__classdict__" : Str)) = false) : PE X (.Name x pos) (tO P G W (.var i)) := by
  refine (pe_var hN hv hd hcd).weak fun σ H Q ⟨F, I, S, m, h⟩ => ?_
  simp only [opE] at h
  split at h
  · rename_i d hs
    obtain ⟨v, h1, h2⟩ := rd_to m hs
    exact ⟨v, h1, h.ok m v ⟨h1, h2⟩⟩
  · exact h.elim
/-- an operand that is no name -/
theorem o_of {c : CE} {e : Expr} (hv : ∀ i, c ≠ .var i) (h : PE X e (tE P G W c)) : PE X e (tO P G W c) := by
  refine h.weak fun σ H Q ⟨F, I, S, m, hh⟩ => ⟨F, I, S, m, ?_⟩
  have e1 : opE c (ev G c) S = ev G c S := by
    cases c <;> first | rfl | exact absurd rfl (hv _)
  rw [e1] at hh
  refine hh.mono fun r S' I' H' _ _ k v tv => k v ?_
  cases c <;> first | exact tv | exact absurd rfl (hv _)
theorem e_cst {c : Const} {d : D} {j : Nat} {pos : Pos} (h : (c = .none ∧ d = .none) ∨ (∃ b, c = .bool b ∧ d = .bool b) ∨ (∃ i, c = .int i ∧ d = .int i) ∨ (∃ x, c = .str x ∧ d = .str x ∧ x.length ≤ szl)) : PE X (.Constant c j pos) (tE P G W (.cst d)) := by
  rcases h with ⟨rfl, rfl⟩ | ⟨b, rfl, rfl⟩ | ⟨i, rfl, rfl⟩ | ⟨x, rfl, rfl, z⟩
  · exact pe_non.weak fun σ H Q ⟨F, I, S, m, h⟩ => by simp only [ev] at h; exact h.ok m _ (.of .non)
  · exact pe_bl.weak fun σ H Q ⟨F, I, S, m, h⟩ => by simp only [ev] at h; exact h.ok m _ (.of (.bl b))
  · exact pe_int.weak fun σ H Q ⟨F, I, S, m, h⟩ => by simp only [ev] at h; exact h.ok m _ (.of (.int i))
  · exact pe_str.weak fun σ H Q ⟨F, I, S, m, h⟩ => by simp only [ev] at h; exact h.ok m _ (.of (.str x z))
theorem e_glob {g : Nat} {x : Str} {pos : Pos} {v0 : V} {u0 : Value} {d0 : D} (hg : L2.Gl X x) (hm : X.mg x = some u0) (r : RelV v0 u0) (hr : ∀ I, Rp P I v0 d0) (hd : (x == ("__debug__" : Str)) = false) (hc : G.con g = some d0) : PE X (.Name x pos) (tE P G W (.glob g)) := by
  refine (pe_glob hg hm r hd).weak fun σ H Q ⟨F, I, S, m, h⟩ => ?_
  simp only [ev, hc] at h
  exact h.ok m _ (.of (hr I))

/-! ### operators -/
theorem e_neg {a : CE} {e : Expr} {pos : Pos} (ha : PE X e (tE P G W a)) : PE X (.UnaryOp .USub e pos) (tE P G W (.neg a)) := by
  refine (pe_un un_neg ha).weak fun σ H Q ⟨F, I, S, m, h⟩ => ⟨F, I, S, m, ?_⟩
  simp only [ev] at h
  refine h.bind.mono fun r S1 I1 H1 x1 m1 h1 v tv => ?_
  split at h1
  · rename_i i hr
    have t := tv.to
    rw [hr] at t
    exact ⟨i, t.int, h1.ok m1 _ (.of (.int _))⟩
  · exact h1.elim
/-- two operands in a row: what is wanted of both -/
theorem two_ops {a b : CE} {x y : Expr} {σ : L2.St} {H : Hp} {R : V → V → Hp → Prop} (F : Addr → Prop) (I : Hp) (S : Sts) (m : Sm P F I H σ S) {β : Type} {f : D → D → Sts → Rs β} {k : β → Sts → Hp → Hp → Prop}
    (h : Po P F I H σ W ((opE a (ev G a) S).bind fun d S1 => (opE b (ev G b) S1).bind fun e S2 => f d.2 e.2 S2) k)
    (hR : ∀ (v w : V) (d e : D) (F1 : Addr → Prop) (S2 : Sts) (I2 H2 : Hp), Sm P F I2 H2 σ S2 → (∀ d', late a d S2 = some d' → To P I2 H2 v d') → (∀ e', late b e S2 = some e' → To P I2 H2 w e') → Po P F I2 H2 σ W (f d e S2) k → R v w H2) :
    tO P G W a σ H fun v H1 => tO P G W b σ H1 fun w H2 => R v w H2 := by
  refine ⟨F, I, S, m, h.bind.mono fun r S1 I1 H1 x1 m1 h1 v ov => ?_⟩
  refine ⟨addF F a v r, I1, S1, ov.more m1, (h1.bind.frame fun z => addF_sub).mono fun s S2 I2 H2 x2 m2 h2 w ow => ?_⟩
  have m2' : Sm P F I2 H2 σ S2 := m2.weak fun z => addF_sub
  have h3 := h2 m2'
  refine hR v w r.2 s.2 (addF F a v r) S2 I2 H2 m2' (fun d' e => late_to m1 ov x2 m2' e) (fun e' e => ?_) h3
  exact late_to m2 ow (Ext.refl) m2 e
theorem e_bin {o : BOp} {a b : CE} {x y : Expr} {pos : Pos} (hK : X.K = P.K) (ha : PE X x (tO P G W a)) (hb : PE X y (tO P G W b)) : PE X (.BinOp x (opOf o) y pos) (tE P G W (.bin o a b)) := by
  obtain ⟨r, hr, sd⟩ := op_s (X := X) hK o
  refine (pe_op hr ha hb).weak fun σ H Q ⟨F, I, S, m, h⟩ => ?_
  simp only [ev] at h
  refine two_ops (x := x) (y := y) F I S m (f := fun d e S2 => ofOpt (late2 a b d e S2 (binD o)) S2) h fun v w d e F1 S2 I2 H2 m2 h1 h2 h3 => ?_
  obtain ⟨res, e1, h4⟩ := h3.opt
  obtain ⟨d', e', l1, l2, l3⟩ := late2_some e1
  exact sd F I2 H2 σ S2 v w d' e' res Q m2 (h1 d' l1) (h2 e' l2) l3 fun v' I' H' x' m' tv => h4 I' H' x' m' v' tv
theorem e_cmp {o : COp} {a b : CE} {x y : Expr} {pos : Pos} (hK : X.K = P.K) (hu : X.A.units + 62 < cLine) (ha : PE X x (tO P G W a)) (hb : PE X y (tO P G W b)) (hm : behindInMarks (copOf o) y = false) : PE X (.Compare x [copOf o] [y] pos) (tE P G W (.cmp o a b)) := by
  obtain ⟨r, hr, sd⟩ := cp_s (X := X) hK hu o
  refine (pe_cmpR hr ha hb hm).weak fun σ H Q ⟨F, I, S, m, h⟩ => ?_
  simp only [ev] at h
  refine two_ops (x := x) (y := y) F I S m (f := fun d e S2 => ofOpt ((late2 a b d e S2 (cmpD o)).map fun b => (false, PyData.bool b)) S2) h fun v w d e F1 S2 I2 H2 m2 h1 h2 h3 => ?_
  obtain ⟨res, e1, h4⟩ := h3.opt
  rw [Option.map_eq_some_iff] at e1
  obtain ⟨t, e1, rfl⟩ := e1
  obtain ⟨d', e', l1, l2, l3⟩ := late2_some e1
  exact sd F I2 H2 σ S2 v w d' e' t Q m2 (h1 d' l1) (h2 e' l2) l3 (h4 I2 H2 .refl m2 _ (.of (.bl _)))
theorem t_cmp {o : COp} {a b : CE} {x y : Expr} {pos : Pos} (hK : X.K = P.K) (hu : X.A.units + 62 < cLine) (ha : PE X x (tO P G W a)) (hb : PE X y (tO P G W b)) (hm : behindInMarks (copOf o) y = false) : PT X (.Compare x [copOf o] [y] pos) (tT P G W (.cmp o a b)) := by
  obtain ⟨r, hr, sd⟩ := cp_s (X := X) hK hu o
  refine (pt_cmpR hr ha hb hm).weak fun σ H Q ⟨F, I, S, m, h⟩ => ?_
  simp only [evT, opE, ev] at h
  have h := h.bind
  refine two_ops (x := x) (y := y) F I S m (f := fun d e S2 => ofOpt ((late2 a b d e S2 (cmpD o)).map fun b => (false, PyData.bool b)) S2) h fun v w d e F1 S2 I2 H2 m2 h1 h2 h3 => ?_
  obtain ⟨res, e1, h4⟩ := h3.opt
  rw [Option.map_eq_some_iff] at e1
  obtain ⟨t, e1, rfl⟩ := e1
  obtain ⟨d', e', l1, l2, l3⟩ := late2_some e1
  exact sd F I2 H2 σ S2 v w d' e' t _ m2 (h1 d' l1) (h2 e' l2) l3 ⟨t, rfl, (h4 I2 H2 .refl m2).ok m2⟩
end
end Ev

set_option Elab.async false
set_option linter.all false
set_option maxRecDepth 100000
set_option maxHeartbeats 4000000
set_option autoImplicit false
/-! Ev6: tests, chains, displays, subscripts. -/
namespace Ev
open PySem PySem.Spec PyProof.Rows L2

section
variable {P : Kx} {F : Addr → Prop} {I H : Hp} {σ : L2.St} {S : Sts}
theorem tru_v {x : V} {d : D} {b : Bool} (hsub : ∀ a o, I a = some o → H a = some o) (t : To P I H x d) (h : tru d = some b) : TruV P.K x H b := by
  cases d with
  | none =>
    rw [t.non]
    simp [tru] at h
    exact h
  | bool c =>
    rw [t.bl]
    simp [tru] at h
    show b = c
    exact h.symm
  | int i =>
    rw [t.int]
    simp only [tru, Option.some.injEq] at h
    show b = (i != 0)
    exact h.symm
  | str y =>
    obtain ⟨rfl, z⟩ := t.str
    simp only [tru, Option.some.injEq] at h
    refine ⟨le_szl z, ?_⟩
    rw [← h]
    cases hz : y.length with
    | zero => rfl
    | succ n =>
      have : ((n + 1 : Nat) : Int) ≠ 0 := by omega
      simp
      omega
  | list ds =>
    obtain ⟨a, xs, rfl, h1, z, r⟩ := t.lst hsub
    simp only [tru, Option.some.injEq] at h
    refine .inl ⟨xs, .of h1, ?_⟩
    rw [← h]
    cases r <;> rfl
  | tuple ds =>
    obtain ⟨a, xs, rfl, _, h1, z, r⟩ := t.tup hsub
    simp only [tru, Option.some.injEq] at h
    refine .inr (.inl ⟨xs, .of h1, ?_⟩)
    rw [← h]
    cases r <;> rfl
  | dict kvs => simp [tru] at h
theorem Ov.to {a : CE} {v : V} {r : Bool × D} (h : Ov P F I H σ S a v r) : To P I H v r.2 := by
  unfold Ov at h
  split at h
  · exact h.2
  · exact h.to
/-- a new thing is shared at once -/
theorem Tv.keep {v : V} {r : Bool × D} (m : Sm P F I H σ S) (h : Tv P F I H σ S v r) : ∃ I', Sm P F I' H σ S ∧ Ext F I H I' H ∧ Rp P I' v r.2 := by
  unfold Tv at h
  split at h
  · obtain ⟨a, rfl, n, f, o, oc⟩ := h
    obtain ⟨u, eu, sh⟩ := oc.share
    obtain ⟨m1, s⟩ := m.adopt eu n f o
    exact ⟨_, m1, ⟨s, fun _ _ => rfl⟩, sh s⟩
  · exact ⟨I, m, .refl, h⟩
end

def simpleTest : Expr → Bool
  | .UnaryOp .Not _ _ => false
  | .BoolOp _ _ _ => false
  | .IfExp _ _ _ _ => false
  | .Compare _ _ _ _ => false
  | _ => true
theorem simple_isTrue {e : Expr} (h : simpleTest e = true) (env : Env) : ∀ whole, isTrue e env whole = (do let v ← whole; standAt e.pos; holding [v] (truthy v)) := by
  intro whole
  cases e <;> first | rfl | (simp [simpleTest] at h; done) | skip
  rename_i op x pos
  cases op <;> first | rfl | (simp [simpleTest] at h; done)
def plainC : CE → Bool
  | .not _ => false
  | .and _ _ => false
  | .or _ _ => false
  | .ife _ _ _ => false
  | _ => true

section
variable {P : Kx} {G : Gl} {W : WX} {X : Cx}
theorem evT_plain {c : CE} (h : plainC c = true) (S : Sts) : evT G c S = (opE c (ev G c) S).bind fun d S1 => ofOpt (tru d.2) S1 := by
  cases c <;> first | (simp only [evT]; done) | (simp [plainC] at h; done)
theorem t_of {c : CE} {e : Expr} (hK : X.K = P.K) (hc : plainC c = true) (he : simpleTest e = true) (h : PE X e (tO P G W c)) : PT X e (tT P G W c) := by
  refine (pt_truth h (simple_isTrue he _)).weak fun σ H Q ⟨F, I, S, m, hh⟩ => ⟨F, I, S, m, ?_⟩
  rw [evT_plain hc] at hh
  refine hh.bind.mono fun r S1 I1 H1 x1 m1 h1 v ov => ?_
  obtain ⟨b, e1, h2⟩ := h1.opt
  rw [hK]
  exact ⟨b, tru_v m1.sub ov.to e1, h2 I1 H1 .refl m1⟩
theorem t_not {a : CE} {x : Expr} {pos : Pos} (ha : PT X x (tT P G W a)) : PT X (.UnaryOp .Not x pos) (tT P G W (.not a)) := by
  refine (pt_not ha).weak fun σ H Q ⟨F, I, S, m, h⟩ => ⟨F, I, S, m, ?_⟩
  simp only [evT] at h
  exact h.bind.mono fun b S1 I1 H1 x1 m1 h1 => h1.ok m1
theorem e_not {a : CE} {x : Expr} {pos : Pos} (hK : X.K = P.K) (ha : PE X x (tO P G W a)) : PE X (.UnaryOp .Not x pos) (tE P G W (.not a)) := by
  refine (pe_notT ha).weak fun σ H Q ⟨F, I, S, m, h⟩ => ⟨F, I, S, m, ?_⟩
  simp only [ev] at h
  refine h.bind.mono fun r S1 I1 H1 x1 m1 h1 v ov => ?_
  obtain ⟨res, e1, h2⟩ := h1.opt
  rw [Option.map_eq_some_iff] at e1
  obtain ⟨b, e1, rfl⟩ := e1
  rw [hK]
  exact ⟨b, tru_v m1.sub ov.to e1, h2 I1 H1 .refl m1 _ (.of (.bl _))⟩
/-! ### and, or -/
theorem w_and1 {b : CE} {y : Expr} {pos : Pos} (hb : PT X y (tT P G W b)) : PW X (.BoolOp .And [y] pos) (tT P G W b) := pw_and1 hb
theorem w_and {a b : CE} {x y : Expr} {ys : List Expr} {pos : Pos} (ha : PT X x (tT P G W a)) (hb : PW X (.BoolOp .And (y :: ys) pos) (tT P G W b)) : PW X (.BoolOp .And (x :: y :: ys) pos) (tT P G W (.and a b)) := by
  refine (pw_and ha hb).weak fun σ H Q ⟨F, I, S, m, h⟩ => ⟨F, I, S, m, ?_⟩
  simp only [evT] at h
  refine h.bind.mono fun t S1 I1 H1 x1 m1 h1 => ?_
  cases t with
  | true => exact ⟨F, I1, S1, m1, h1⟩
  | false => exact h1.ok m1
theorem w_or {a b : CE} {x y : Expr} {ys : List Expr} {pos : Pos} (ha : PT X x (tT P G W a)) (hb : PW X (.BoolOp .Or (y :: ys) pos) (tT P G W b)) : PW X (.BoolOp .Or (x :: y :: ys) pos) (tT P G W (.or a b)) := by
  refine (pw_or ha hb).weak fun σ H Q ⟨F, I, S, m, h⟩ => ⟨F, I, S, m, ?_⟩
  simp only [evT] at h
  refine h.bind.mono fun t S1 I1 H1 x1 m1 h1 => ?_
  cases t with
  | true => exact h1.ok m1
  | false => exact ⟨F, I1, S1, m1, h1⟩
theorem tv_bool {F : Addr → Prop} {I H : Hp} {σ : L2.St} {S : Sts} {v : V} {r : Bool × D} {b : Bool} (t : Tv P F I H σ S v r) (h : r.2 = .bool b) : v = .bl b := by
  have t' := t.to
  rw [h] at t'
  exact t'.bl
theorem e_and {a b : CE} {x y : Expr} {ys : List Expr} {pos : Pos} (ha : PE X x (tE P G W a)) (hb : PE X (.BoolOp .And (y :: ys) pos) (tE P G W b)) : PE X (.BoolOp .And (x :: y :: ys) pos) (tE P G W (.and a b)) := by
  refine (pe_and ha hb).weak fun σ H Q ⟨F, I, S, m, h⟩ => ⟨F, I, S, m, ?_⟩
  simp only [ev] at h
  refine h.bind.mono fun r S1 I1 H1 x1 m1 h1 v tv => ?_
  split at h1
  · rename_i hr
    exact ⟨true, tv_bool tv hr, F, I1, S1, m1, h1⟩
  · rename_i hr
    exact ⟨false, tv_bool tv hr, h1.ok m1 _ (.of (.bl _))⟩
  · exact h1.elim
theorem e_or {a b : CE} {x y : Expr} {ys : List Expr} {pos : Pos} (ha : PE X x (tE P G W a)) (hb : PE X (.BoolOp .Or (y :: ys) pos) (tE P G W b)) : PE X (.BoolOp .Or (x :: y :: ys) pos) (tE P G W (.or a b)) := by
  refine (pe_or ha hb).weak fun σ H Q ⟨F, I, S, m, h⟩ => ⟨F, I, S, m, ?_⟩
  simp only [ev] at h
  refine h.bind.mono fun r S1 I1 H1 x1 m1 h1 v tv => ?_
  split at h1
  · rename_i hr
    exact ⟨false, tv_bool tv hr, F, I1, S1, m1, h1⟩
  · rename_i hr
    exact ⟨true, tv_bool tv hr, h1.ok m1 _ (.of (.bl _))⟩
  · exact h1.elim
theorem e_ife {c a b : CE} {z x y : Expr} {pos : Pos} (hc : PT X z (tT P G W c)) (ha : PE X x (tE P G W a)) (hb : PE X y (tE P G W b)) : PE X (.IfExp z x y pos) (tE P G W (.ife c a b)) := by
  refine (pe_ifExp hc ha hb).weak fun σ H Q ⟨F, I, S, m, h⟩ => ⟨F, I, S, m, ?_⟩
  simp only [ev] at h
  refine h.bind.mono fun t S1 I1 H1 x1 m1 h1 => ?_
  cases t with
  | true => exact ⟨F, I1, S1, m1, h1⟩
  | false => exact ⟨F, I1, S1, m1, h1⟩
/-! ### chains -/
theorem chain_go {o p : COp} {a b c : CE} {r r' : R2} {σ : L2.St} {H : Hp} {Q : VK} (sd : CpSd P o r) (sd' : CpSd P p r') (h : tE P G W (.chain o p a b c) σ H Q) : tChain r r' (tO P G W a) (tO P G W b) (tO P G W c) σ H Q := by
  obtain ⟨F, I, S, m, h⟩ := h
  simp only [ev] at h
  refine ⟨F, I, S, m, h.bind.mono fun ra S1 I1 H1 x1 m1 h1 v ov => ?_⟩
  refine ⟨addF F a v ra, I1, S1, ov.more m1, (h1.bind.frame fun z => addF_sub).mono fun rb S2 I2 H2 x2 m2 h2 w ow => ?_⟩
  have m2' : Sm P F I2 H2 σ S2 := m2.weak fun z => addF_sub
  have h3 := h2 m2'
  have fin : ∀ (t : Bool), late2 a b ra.2 rb.2 S2 (cmpD o) = some t → (if t = true then (tO P G W c) σ H2 fun w' H4 => r' w w' H4 Q else Q (.bl false) H2) → r v w H2 fun z H3 => ∃ k, z = .bl k ∧ (if k = true then (tO P G W c) σ H3 fun w' H4 => r' w w' H4 Q else Q (.bl false) H3) := by
    intro t e q
    obtain ⟨d', e', l1, l2, l3⟩ := late2_some e
    exact sd F I2 H2 σ S2 v w d' e' t _ m2' (late_to m1 ov x2 m2' l1) (late_to m2 ow .refl m2 l2) l3 ⟨t, rfl, q⟩
  split at h3
  · rename_i he
    refine fin true he ?_
    rw [if_pos rfl]
    refine ⟨addF F b w rb, I2, S2, ?_, (h3.bind.frame fun z => addF_sub).mono fun rc S3 I3 H3 x3 m3 h4 u ou => ?_⟩
    · have ow' : Ov P F I2 H2 σ S2 b w rb := by
        unfold Ov at ow ⊢
        split
        · exact ow
        · rename_i hv
          split at ow
          · exact absurd rfl (hv _)
          · unfold Tv at ow ⊢
            split
            · rename_i hr
              rw [if_pos hr] at ow
              obtain ⟨q, e1, n, f, o', oc⟩ := ow
              exact ⟨q, e1, n, fun z => f (addF_sub z), o', oc⟩
            · rename_i hr
              rw [if_neg hr] at ow
              exact ow
      exact ow'.more m2'
    · have m3' : Sm P F I3 H3 σ S3 := m3.weak fun z => addF_sub
      obtain ⟨res, e1, h5⟩ := (h4 m3').opt
      rw [Option.map_eq_some_iff] at e1
      obtain ⟨t, e1, rfl⟩ := e1
      obtain ⟨d', e', l1, l2, l3⟩ := late2_some e1
      have ow2 : Ov P F I2 H2 σ S2 b w rb := by
        unfold Ov at ow ⊢
        split
        · exact ow
        · rename_i hv
          split at ow
          · exact absurd rfl (hv _)
          · unfold Tv at ow ⊢
            split
            · rename_i hr
              rw [if_pos hr] at ow
              obtain ⟨q, e1, n, f, o', oc⟩ := ow
              exact ⟨q, e1, n, fun z => f (addF_sub z), o', oc⟩
            · rename_i hr
              rw [if_neg hr] at ow
              exact ow
      exact sd' F I3 H3 σ S3 w u d' e' t Q m3' (late_to m2' ow2 x3 m3' l1) (late_to m3 ou .refl m3 l2) l3 (h5 I3 H3 .refl m3' _ (.of (.bl _)))
  · rename_i he
    refine fin false he ?_
    rw [if_neg Bool.false_ne_true]
    exact h3.ok m2' _ (.of (.bl _))
  · exact h3.elim
theorem e_chain {o p : COp} {a b c : CE} {x y z : Expr} {pos : Pos} (hK : X.K = P.K) (hu : X.A.units + 62 < cLine) (ha : PE X x (tO P G W a)) (hb : PE X y (tO P G W b)) (hc : PE X z (tO P G W c)) (hm : lastMarks [copOf o, copOf p] [y, z] = false) :
    PE X (.Compare x [copOf o, copOf p] [y, z] pos) (tE P G W (.chain o p a b c)) := by
  obtain ⟨r, hr, sd⟩ := cp_s (X := X) hK hu o
  obtain ⟨r', hr', sd'⟩ := cp_s (X := X) hK hu p
  exact (pe_chain hr hr' ha hb hc hm).weak fun σ H Q h => chain_go sd sd' h
theorem Rs.bind_ok {α β : Type} {r : Rs α} {f : α → Sts → Rs β} {b : β} {S : Sts} (h : r.bind f = .ok b S) : ∃ a S1, r = .ok a S1 ∧ f a S1 = .ok b S := by
  cases r with
  | ok a S1 => exact ⟨a, S1, rfl, h⟩
  | ex c S1 => cases h
  | bad => cases h
theorem ofOpt_ok {α : Type} {o : Option α} {a : α} {S S1 : Sts} (h : ofOpt o S = .ok a S1) : o = some a ∧ S = S1 := by
  cases o with
  | none => cases h
  | some b => cases h; exact ⟨rfl, rfl⟩
theorem chain_bool {o p : COp} {a b c : CE} {S S' : Sts} {r : Bool × D} (h : ev G (.chain o p a b c) S = .ok r S') : ∃ t, r = (false, .bool t) := by
  simp only [ev] at h
  obtain ⟨_, _, _, h⟩ := Rs.bind_ok h
  obtain ⟨_, _, _, h⟩ := Rs.bind_ok h
  split at h
  · obtain ⟨_, _, _, h⟩ := Rs.bind_ok h
    obtain ⟨h, _⟩ := ofOpt_ok h
    rw [Option.map_eq_some_iff] at h
    obtain ⟨t, _, rfl⟩ := h
    exact ⟨t, rfl⟩
  · cases h
    exact ⟨_, rfl⟩
  · cases h
theorem t_chain {o p : COp} {a b c : CE} {x y z : Expr} {pos : Pos} (hK : X.K = P.K) (hu : X.A.units + 62 < cLine) (ha : PE X x (tO P G W a)) (hb : PE X y (tO P G W b)) (hc : PE X z (tO P G W c)) (hm : lastMarks [copOf o, copOf p] [y, z] = false) :
    PT X (.Compare x [copOf o, copOf p] [y, z] pos) (tT P G W (.chain o p a b c)) := by
  obtain ⟨r, hr, sd⟩ := cp_s (X := X) hK hu o
  obtain ⟨r', hr', sd'⟩ := cp_s (X := X) hK hu p
  refine (pt_chain hr hr' ha hb hc hm).weak fun σ H Q ⟨F, I, S, m, h⟩ => ?_
  refine chain_go sd sd' ⟨F, I, S, m, ?_⟩
  rw [evT_plain rfl] at h
  change Po P F I H σ W ((ev G (.chain o p a b c) S).bind fun d S1 => ofOpt (tru d.2) S1) _ at h
  cases hr : ev G (.chain o p a b c) S with
  | ok r S' =>
    obtain ⟨t, rfl⟩ := chain_bool hr
    rw [hr] at h
    intro I' H' x' m' v tv
    exact ⟨t, tv_bool tv rfl, h I' H' x' m'⟩
  | ex e S' =>
    rw [hr] at h
    exact h
  | bad =>
    rw [hr] at h
    exact h
end
end Ev

set_option Elab.async false
set_option linter.all false
set_option maxRecDepth 100000
set_option maxHeartbeats 4000000
set_option autoImplicit false
/-! Ev7: lists of operands, displays, calls of built-ins, isinstance, parts of a sequence. -/
namespace Ev
open PySem PySem.Spec PyProof.Rows L2

def noStar : Expr → Bool
  | .Starred _ _ => false
  | _ => true
theorem star_of {e : Expr} (h : noStar e = true) (es : List Expr) (env : Env) : starEach (e :: es) env = (false, eval e env) :: starEach es env := by
  cases e <;> first | rfl | (simp [noStar] at h; done)
theorem star_all {es : List Expr} (h : es.all noStar = true) (pos : Pos) (env : Env) : (backTo pos (starEach es env)).any (·.1) = false := by
  induction es with
  | nil => rfl
  | cons e es ih =>
    simp only [List.all_cons, Bool.and_eq_true] at h
    rw [star_of h.1]
    simp only [backTo, List.map_cons, List.any_cons, Bool.false_or]
    exact ih h.2

section
variable {P : Kx} {G : Gl} {W : WX} {X : Cx} {e : Expr} {es : List Expr} {c : CE} {cs : CEs} {pos : Pos}
/-- operands in a row -/
def tOs (P : Kx) (G : Gl) (W : WX) (cs : CEs) : TA := fun σ H Q => ∃ F I S, Sm P F I H σ S ∧ Po P F I H σ W (evO G cs S) fun ds S' I' H' => ∀ xs, (∀ ds', lates cs ds S' = some ds' → ToAll P I' H' xs ds') → Q xs H'
theorem os_nil : PA X [] (tOs P G W .nil) := by
  refine pa_nil.weak fun σ H Q ⟨F, I, S, m, h⟩ => ?_
  simp only [evO] at h
  refine h.ok m [] fun ds' e => ?_
  simp only [lates, Option.some.injEq] at e
  subst e
  exact .nil
theorem os_cons (hn : noStar e = true) (ha : PE X e (tO P G W c)) (hr : PA X es (tOs P G W cs)) : PA X (e :: es) (tOs P G W (.cons c cs)) := by
  refine (pa_cons ha hr (star_of hn es _)).weak fun σ H Q ⟨F, I, S, m, h⟩ => ⟨F, I, S, m, ?_⟩
  simp only [evO] at h
  refine h.bind.mono fun r S1 I1 H1 x1 m1 h1 v ov => ?_
  refine ⟨addF F c v r, I1, S1, ov.more m1, (h1.bind.frame fun z => addF_sub).mono fun ds S2 I2 H2 x2 m2 h2 xs hx => ?_⟩
  have m2' : Sm P F I2 H2 σ S2 := m2.weak fun z => addF_sub
  refine (h2 m2').ok m2' (v :: xs) fun ds' e => ?_
  simp only [lates] at e
  split at e
  · rename_i d ds1 e1 e2
    cases e
    exact .cons (late_to m1 ov x2 m2' e1) (hx _ e2)
  · cases e
/-- values in a row, to be kept -/
def tLs (P : Kx) (G : Gl) (W : WX) (cs : CEs) : TA := fun σ H Q => ∃ F I S, Sm P F I H σ S ∧ Po P F I H σ W (evL G cs S) fun ds S' I' H' => ∀ xs, RpAll P I' xs ds → Q xs H'
theorem ls_nil : PA X [] (tLs P G W .nil) := by
  refine pa_nil.weak fun σ H Q ⟨F, I, S, m, h⟩ => ?_
  simp only [evL] at h
  exact h.ok m [] .nil
theorem ls_cons (hn : noStar e = true) (ha : PE X e (tE P G W c)) (hr : PA X es (tLs P G W cs)) : PA X (e :: es) (tLs P G W (.cons c cs)) := by
  refine (pa_cons ha hr (star_of hn es _)).weak fun σ H Q ⟨F, I, S, m, h⟩ => ⟨F, I, S, m, ?_⟩
  simp only [evL] at h
  refine h.bind.mono fun r S1 I1 H1 x1 m1 h1 v tv => ?_
  obtain ⟨I2, m2, x2, rp⟩ := tv.keep m1
  refine ⟨F, I2, S1, m2, (Po.shift x2 h1.bind).mono fun ds S3 I3 H3 x3 m3 h3 xs hx => ?_⟩
  exact h3.ok m3 (v :: xs) (.cons (rp.mono x3.same) hx)

theorem e_tup {k} (h : PA X es (tLs P G W cs)) : PE X (.Tuple es k pos) (tE P G W (.tup cs)) := by
  refine (pe_tup h).weak fun σ H Q ⟨F, I, S, m, h⟩ => ⟨F, I, S, m, ?_⟩
  simp only [ev] at h
  refine h.bind.mono fun ds S1 I1 H1 x1 m1 h1 xs hx => ?_
  split at h1
  · rename_i z
    rw [← hx.length] at z
    exact ⟨le_szl z, fun p hp => Kt.newT (fun v I' H' x m tv => h1 I' H' x m v tv) m1 hp z hx⟩
  · exact h1.elim
theorem e_lst (h : PA X es (tLs P G W cs)) : PE X (.List es pos) (tE P G W (.lst cs)) := by
  refine (pe_lst h).weak fun σ H Q ⟨F, I, S, m, h⟩ => ⟨F, I, S, m, ?_⟩
  simp only [ev] at h
  refine h.bind.mono fun ds S1 I1 H1 x1 m1 h1 xs hx => ?_
  split at h1
  · rename_i z
    rw [← hx.length] at z
    exact ⟨le_szl z, fun p hp => Kt.newL (fun v I' H' x m tv => h1 I' H' x m v tv) m1 hp z hx⟩
  · exact h1.elim
theorem e_dct : PE X (.Dict [] [] pos) (tE P G W .dct) := by
  refine pe_dnewK.weak fun σ H Q ⟨F, I, S, m, h⟩ p hp => ?_
  simp only [ev] at h
  exact Kt.newK (fun v I' H' x m tv => h I' H' x m v tv) m hp

/-! ### built-ins -/
def biN : Bi → Str
  | .len => "len"
  | .sum => "sum"
  | .all => "all"
  | .any => "any"
  | .min => "min"
  | .max => "max"
  | .abs => "abs"
  | .sorted => "sorted"
  | .repr => "repr"
  | .int => "int"
  | .str => "str"
  | .tuple => "tuple"
  | .list => "list"
  | .dict => "dict"
  | .set => "set"
  | .bool => "bool"
theorem bi_go {b : Bi} {r : List V → Hp → VK → Prop} (sd : BiSd P b r) {σ : L2.St} {H : Hp} {Q : VK} (h : tE P G W (.bi b cs) σ H Q) : tCB r (tOs P G W cs) σ H Q := by
  obtain ⟨F, I, S, m, h⟩ := h
  simp only [ev] at h
  refine ⟨F, I, S, m, h.bind.mono fun ds S1 I1 H1 x1 m1 h1 xs hx => ?_⟩
  obtain ⟨res, e1, h2⟩ := h1.opt
  rw [Option.bind_eq_some_iff] at e1
  obtain ⟨ds', e1, e2⟩ := e1
  exact sd F I1 H1 σ S1 xs ds' res Q m1 (hx ds' e1) e2 fun v I' H' x m tv => h2 I' H' x m v tv
theorem e_bi (hR : Rm P X) {b : Bi} (hb : hasBi b = true) {p : Pos} (hg : L2.Gl X (biN b)) (hm : X.mg (biN b) = none) (hn : noStar e = true) (hns : es.all noStar = true) (ha : PA X (e :: es) (tOs P G W cs)) :
    PE X (.Call (.Name (biN b) p) (e :: es) [] pos) (tE P G W (.bi b cs)) := by
  obtain ⟨r, hr, sd⟩ := bi_s hR b hb
  have he := star_of hn es X.env
  have hp := star_all hns pos X.env
  cases b <;> first
    | exact (pe_callB hr hg hm rfl ha (by decide) (by decide) he hp).weak fun σ H Q h => bi_go sd h
    | exact (pe_callTy hr hg hm rfl ha (by decide) (by decide) he hp).weak fun σ H Q h => bi_go sd h
    | (simp [hasBi] at hb; done)

/-! ### isinstance with a built-in type -/
def tyN : Ty → String
  | .int => "int"
  | .bool => "bool"
  | .str => "str"
  | .tuple => "tuple"
  | .list => "list"
  | .none => "NoneType"
  | .exc _ => ""
  | .valueError => "ValueError"
def tyOfD : D → String
  | .none => "NoneType"
  | .bool _ => "bool"
  | .int _ => "int"
  | .str _ => "str"
  | .list _ => "list"
  | .tuple _ => "tuple"
  | .dict _ => "dict"
theorem to_ty {I H : Hp} {v : V} {d : D} (hsub : ∀ a o, I a = some o → H a = some o) (t : To P I H v d) (hd : ∀ kvs, d ≠ .dict kvs) : TyX P.K H v (.type (tyOfD d)) := by
  cases d with
  | none => rw [t.non]; exact .base .non
  | bool b => rw [t.bl]; exact .base (.bl b)
  | int i => rw [t.int]; exact .base (.int i)
  | str x => rw [t.str.1]; exact .base (.str x)
  | list ds =>
    obtain ⟨a, xs, rfl, h1, z, r⟩ := t.lst hsub
    exact .base (.lst h1)
  | tuple ds =>
    obtain ⟨a, xs, rfl, _, h1, z, r⟩ := t.tup hsub
    exact .base (.tup h1)
  | dict kvs => exact absurd rfl (hd kvs)
theorem isTy_kit {t : Ty} {d : D} {b : Bool} (h : isTy t d = some b) : (∀ kvs, d ≠ .dict kvs) ∧ kitB (tyOfD d) (tyN t) = some b := by
  unfold isTy at h
  split at h <;> first | (cases h; exact ⟨fun kvs e => (by cases e), by simp only [tyOfD, tyN]; decide +kernel⟩) | cases h
theorem e_isi (hK : X.K = P.K) {a : CE} {t : Ty} {p p2 : Pos} {v0 : Str} (hty : (match t with | .exc _ => false | .valueError => false | .none => false | _ => true) = true) (hv0 : v0 = Str.ofString (tyN t)) (hg : L2.Gl X "isinstance") (hm : X.mg "isinstance" = none) (hg2 : L2.Gl X v0) (hm2 : X.mg v0 = none) (hn : noStar e = true) (ha : PE X e (tO P G W a)) :
    PE X (.Call (.Name "isinstance" p) [e, .Name v0 p2] [] pos) (tE P G W (.isi a t)) := by
  have he := star_of hn [.Name v0 p2] X.env
  have hv : bootBuiltins v0 = some (.type (tyN t)) ∧ v0 ≠ "__name__" ∧ (v0 == ("__debug__" : Str)) = false := by
    subst hv0
    cases t <;> first | (simp at hty; done) | (refine ⟨rfl, by decide, by decide⟩)
  have hp : PE X (.Name v0 p2) (tC (.ty (tyN t))) := pe_bltn hg2 hm2 hv.1 rfl hv.2.1 hv.2.2
  refine (pe_callB call_isi hg hm rfl (pa_cons ha (pa_cons hp pa_nil (star_of rfl [] X.env)) he) (by decide) (by decide) he (star_all rfl pos X.env)).weak fun σ H Q ⟨F, I, S, m, h⟩ => ⟨F, I, S, m, ?_⟩
  simp only [ev] at h
  refine h.bind.mono fun r S1 I1 H1 x1 m1 h1 v ov => ?_
  obtain ⟨res, e1, h2⟩ := h1.opt
  rw [Option.map_eq_some_iff] at e1
  obtain ⟨b, e1, rfl⟩ := e1
  obtain ⟨nd, k⟩ := isTy_kit e1
  refine ⟨v, .ty (tyN t), _, _, b, rfl, .ty _, ?_, kit_ty k, h2 I1 H1 .refl m1 _ (.of (.bl _))⟩
  rw [hK]
  exact to_ty m1.sub ov.to nd
end
end Ev

set_option Elab.async false
set_option linter.all false
set_option maxRecDepth 100000
set_option maxHeartbeats 4000000
set_option autoImplicit false
/-! Ev8: dict keys, subscripts, slices. -/
namespace Ev
open PySem PySem.Spec PyProof.Rows L2

/-! ### keys -/
theorem eqv_kD (a b : Key) : PyData.eqv (kD a) (kD b) = decide (a = b) := by
  cases a with
  | inl i => cases b with
    | inl j => by_cases h : i = j <;> simp [kD, PyData.eqv, h]
    | inr y => simp [kD, PyData.eqv]
  | inr x => cases b with
    | inl j => simp [kD, PyData.eqv]
    | inr y => by_cases h : x = y <;> simp [kD, PyData.eqv, h]
theorem eqv_kDs : ∀ (a b : List Key), PyData.eqv (.tuple (a.map kD)) (.tuple (b.map kD)) = decide (a = b)
  | [], [] => by simp [PyData.eqv, PyData.eqvAll]
  | [], b :: bs => by simp [PyData.eqv, PyData.eqvAll]
  | a :: as, [] => by simp [PyData.eqv, PyData.eqvAll]
  | a :: as, b :: bs => by
    have ih := eqv_kDs as bs
    have h1 := eqv_kD a b
    simp only [PyData.eqv, List.map_cons, PyData.eqvAll] at ih ⊢
    rw [h1, ih]
    by_cases h : a = b <;> by_cases h' : as = bs <;> simp [h, h']
section
variable {P : Kx} {I H : Hp}
theorem getK : ∀ {ps : List (Key × V)} {es : List (D × D)} {k : Key} {u : D}, RpK P I ps es → getDct (kD k) es = some u → ∃ w, valV ps k = some w ∧ Rp P I w u
  | _, _, _, _, .nil, h => by simp [getDct] at h
  | _, _, k, u, .cons (k := k') (v := v) a b, h => by
    simp only [getDct, eqv_kD, decide_eq_true_eq] at h
    by_cases e : k' = k
    · rw [if_pos e] at h
      cases h
      exact ⟨v, valV_pos e, a⟩
    · rw [if_neg e] at h
      rw [valV_neg e]
      exact getK b h
theorem getT : ∀ {ps : List (List Key × V)} {es : List (D × D)} {k : List Key} {u : D}, RpT P I ps es → getDct (.tuple (k.map kD)) es = some u → ∃ w, valV ps k = some w ∧ Rp P I w u
  | _, _, _, _, .nil, h => by simp [getDct] at h
  | _, _, k, u, .cons (k := k') (v := v) a b, h => by
    simp only [getDct, eqv_kDs, decide_eq_true_eq] at h
    by_cases e : k' = k
    · rw [if_pos e] at h
      cases h
      exact ⟨v, valV_pos e, a⟩
    · rw [if_neg e] at h
      rw [valV_neg e]
      exact getT b h
theorem getK_no : ∀ {ps : List (Key × V)} {es : List (D × D)} {k : Key}, RpK P I ps es → getDct (kD k) es = none → valV ps k = none
  | _, _, _, .nil, h => rfl
  | _, _, k, .cons (k := k') (v := v) a b, h => by
    simp only [getDct, eqv_kD, decide_eq_true_eq] at h
    by_cases e : k' = k
    · rw [if_pos e] at h
      cases h
    · rw [if_neg e] at h
      rw [valV_neg e]
      exact getK_no b h
theorem getT_no : ∀ {ps : List (List Key × V)} {es : List (D × D)} {k : List Key}, RpT P I ps es → getDct (.tuple (k.map kD)) es = none → valV ps k = none
  | _, _, _, .nil, h => rfl
  | _, _, k, .cons (k := k') (v := v) a b, h => by
    simp only [getDct, eqv_kDs, decide_eq_true_eq] at h
    by_cases e : k' = k
    · rw [if_pos e] at h
      cases h
    · rw [if_neg e] at h
      rw [valV_neg e]
      exact getT_no b h
theorem eqv_tk (k : Key) (ds : List D) : PyData.eqv (kD k) (.tuple ds) = false := by cases k <;> simp [kD, PyData.eqv]
theorem eqv_kt (k : Key) (ds : List D) : PyData.eqv (.tuple ds) (kD k) = false := by cases k <;> simp [kD, PyData.eqv]
theorem getKt : ∀ {ps : List (Key × V)} {es : List (D × D)} {ds : List D}, RpK P I ps es → getDct (.tuple ds) es = none
  | _, _, _, .nil => by simp [getDct]
  | _, _, ds, .cons (k := k') a b => by simp [getDct, eqv_tk, getKt b]
theorem getTk : ∀ {ps : List (List Key × V)} {es : List (D × D)} {k : Key}, RpT P I ps es → getDct (kD k) es = none
  | _, _, _, .nil => by simp [getDct]
  | _, _, k, .cons a b => by simp [getDct, eqv_kt, getTk b]
/-- a key as a value -/
inductive KeyV (H : Hp) : V → D → Prop where
  | k (k : Key) : KeyV H (kV k) (kD k)
  | t {b : Addr} (k : List Key) : H b = some (.tup (k.map kV)) → KeyV H (.ref b) (.tuple (k.map kD))
theorem flat_keys : ∀ {xs : List V} {ds : List D}, RpAll P I xs ds → ds.all flatKey = true → ∃ ks : List Key, xs = ks.map kV ∧ ds = ks.map kD
  | _, _, .nil, _ => ⟨[], rfl, rfl⟩
  | _, _, .cons (v := v) (d := d) a b, h => by
    simp only [List.all_cons, Bool.and_eq_true] at h
    obtain ⟨ks, e1, e2⟩ := flat_keys b h.2
    cases d <;> simp [flatKey] at h
    · rename_i i
      cases a
      exact ⟨.inl i :: ks, by rw [e1]; rfl, by rw [e2]; rfl⟩
    · rename_i x
      cases a
      exact ⟨.inr x :: ks, by rw [e1]; rfl, by rw [e2]; rfl⟩
theorem key_v {w : V} {d : D} (hsub : ∀ a o, I a = some o → H a = some o) (t : To P I H w d) (h : keyOk d = true) : KeyV H w d := by
  cases d <;> simp [keyOk] at h
  · rw [t.int]; exact .k (.inl _)
  · rw [t.str.1]; exact .k (.inr _)
  · obtain ⟨a, xs, rfl, _, h1, z, r⟩ := t.tup hsub
    obtain ⟨ks, e1, e2⟩ := flat_keys r (by simpa using h)
    subst e1 e2
    exact .t ks h1
/-- a dict to be read -/
def DiV (P : Kx) (I H : Hp) (a : Addr) (es : List (D × D)) : Prop := (∃ ps, Rd H a (.dK ps) ∧ RpK P I ps es) ∨ ∃ ps, Rd H a (.dT ps) ∧ RpT P I ps es
theorem dct_v {v : V} {es : List (D × D)} (hsub : ∀ a o, I a = some o → H a = some o) (t : To P I H v (.dict es)) (h : isDct es = true) : ∃ a, v = .ref a ∧ DiV P I H a es := by
  rcases t with t | ⟨a, e, t⟩
  · generalize hd : PyData.dict es = d at t
    cases t with
    | dk h1 z r => cases hd; exact ⟨_, rfl, .inl ⟨_, .inl (hsub _ _ h1), r⟩⟩
    | dt h1 z r => cases hd; exact ⟨_, rfl, .inr ⟨_, .inl (hsub _ _ h1), r⟩⟩
    | scr _ _ => simp [scrD] at hd; subst hd; simp [isDct] at h
    | ktp _ _ => simp [ktpD] at hd; subst hd; simp [isDct] at h
    | exc _ => simp [excD] at hd; subst hd; simp [isDct] at h
    | _ => cases hd
  · refine ⟨a, e, ?_⟩
    generalize hd : PyData.dict es = d at t
    cases t with
    | of t => cases t with
      | lst _ _ _ => cases hd
      | dk h1 z r => cases hd; exact .inl ⟨_, .inl h1, r⟩
      | dt h1 z r => cases hd; exact .inr ⟨_, .inl h1, r⟩
    | fk h1 z r => cases hd; exact .inl ⟨_, .inr ⟨_, h1⟩, r⟩
    | ft h1 z r => cases hd; exact .inr ⟨_, .inr ⟨_, h1⟩, r⟩
theorem d_get {a : Addr} {w : V} {es : List (D × D)} {d u : D} (g : DiV P I H a es) (k : KeyV H w d) (h : getDct d es = some u) : ∃ x, DGet H a w (some x) ∧ Rp P I x u := by
  rcases g with ⟨ps, h1, r⟩ | ⟨ps, h1, r⟩
  · cases k with
    | k k =>
      obtain ⟨x, e, rx⟩ := getK r h
      exact ⟨x, .inl ⟨ps, k, h1, rfl, e.symm⟩, rx⟩
    | t k hb => rw [getKt r] at h; cases h
  · cases k with
    | k k => rw [getTk r] at h; cases h
    | t k hb =>
      obtain ⟨x, e, rx⟩ := getT r h
      exact ⟨x, .inr ⟨ps, k, _, h1, rfl, hb, e.symm⟩, rx⟩
end
section
variable {P : Kx} {G : Gl} {W : WX} {X : Cx}
/-! ### subscripts -/
def noSlice : Expr → Bool
  | .Slice _ _ _ _ => false
  | _ => true
theorem plain_ix {e : Expr} (h : noSlice e = true) : PlainIx e := by
  intro o i
  cases e <;> first | rfl | (simp [noSlice] at h; done)
def rIxD : R2 := fun x y H Q => ∃ a v, x = .ref a ∧ DGet H a y (some v) ∧ Q v H
theorem ix_dct (hu : X.A.units + 1 < cLine) : IxR X rIxD := by
  intro value slice pins s σ H x y v u Q I rx ry h hs
  obtain ⟨a, z, rfl, g, q⟩ := h
  cases rx
  exact tail_any (dict_typeIs I g) PySem.F.slot_dict_getitem.lookup (d_getItem hu I g ry fun w' s' I' r' => ⟨z, H, I', r', q⟩) hs
def IxSd (P : Kx) (r : R2) : Prop := ∀ (I H : Hp) (x y : V) (d e u : D) (Q : VK), (∀ a o, I a = some o → H a = some o) → To P I H x d → To P I H y e → getIx d e = some u → (∀ v, Rp P I v u → Q v H) → r x y H Q
theorem at_rp {I : Hp} {xs : List V} {ds : List D} {i : Int} {u : D} (r : RpAll P I xs ds) (h : ((ixD ds.length i).bind fun j => ds[j]?) = some u) : ∃ v, atI xs i = some v ∧ Rp P I v u := by
  rw [Option.bind_eq_some_iff] at h
  obtain ⟨j, h1, h2⟩ := h
  obtain ⟨v, e, rv⟩ := r.get h2
  refine ⟨v, ?_, rv⟩
  unfold atI
  rw [r.length, show ixN ds.length i = ixD ds.length i from rfl, h1]
  exact e
theorem ix_s (hK : X.K = P.K) (hu : X.A.units + 1 < cLine) : ∃ r, IxR X r ∧ IxSd P r := by
  refine ⟨_, ix_seq.or (ix_dct hu), ?_⟩
  intro I H x y d e u Q hsub tx ty h k
  rw [hK]
  unfold getIx at h
  split at h
  · obtain ⟨a, xs, rfl, h1, z, r⟩ := tx.lst hsub
    obtain ⟨v, e1, rv⟩ := at_rp r h
    exact .inl (.inl ⟨a, xs, _, v, rfl, ty.int, .of h1, e1, k v rv⟩)
  · obtain ⟨a, xs, rfl, _, h1, z, r⟩ := tx.tup hsub
    obtain ⟨v, e1, rv⟩ := at_rp r h
    exact .inl (.inr (.inl ⟨a, xs, _, v, rfl, ty.int, .of h1, e1, k v rv⟩))
  · obtain ⟨a, ns, rfl, rfl, h1, z⟩ := scr_inv hsub tx
    obtain ⟨v, e1, rv⟩ := at_rp (RpAll.ints (P := P) (I := I) ns) h
    exact .inl (.inl ⟨a, _, _, v, rfl, ty.int, h1, e1, k v rv⟩)
  · split at h
    · rename_i hc
      simp only [Bool.and_eq_true] at hc
      obtain ⟨a, rfl, g⟩ := dct_v hsub tx hc.1
      obtain ⟨v, g', rv⟩ := d_get g (key_v hsub ty hc.2) h
      exact .inr ⟨a, v, rfl, g', k v rv⟩
    · cases h
  · cases h
theorem e_ix (hK : X.K = P.K) (hu : X.A.units + 1 < cLine) {a b : CE} {x y : Expr} {pos : Pos} (hs : noSlice y = true) (ha : PE X x (tO P G W a)) (hb : PE X y (tO P G W b)) : PE X (.Subscript x y pos) (tE P G W (.ix a b)) := by
  obtain ⟨r, hr, sd⟩ := ix_s (X := X) hK hu
  refine (pe_ix hr ha hb (plain_ix hs)).weak fun σ H Q ⟨F, I, S, m, h⟩ => ?_
  simp only [ev] at h
  refine two_ops (x := x) (y := y) F I S m (f := fun d e S2 => ofOpt ((late2 a b d e S2 getIx).map fun x => (false, x)) S2) h fun v w d e F1 S2 I2 H2 m2 h1 h2 h3 => ?_
  obtain ⟨res, e1, h4⟩ := h3.opt
  rw [Option.map_eq_some_iff] at e1
  obtain ⟨t, e1, rfl⟩ := e1
  obtain ⟨d', e', l1, l2, l3⟩ := late2_some e1
  exact sd I2 H2 v w d' e' t Q m2.sub (h1 d' l1) (h2 e' l2) l3 fun u ru => h4 I2 H2 .refl m2 u (.of ru)

/-! ### slices -/
def tP (P : Kx) (G : Gl) (W : WX) (cs : CEs) : TO := fun σ H Q => ∃ F I S, Sm P F I H σ S ∧ Po P F I H σ W (evP G cs S) fun o S' I' H' => Q o H'
theorem p_none : PO X none (tP P G W .nil) := by
  refine ⟨fun pins s σ H Q I ⟨F, I0, S, m, h⟩ => po_none.run pins s σ H Q I ?_⟩
  simp only [evP] at h
  exact h.ok m
theorem p_some {c : CE} {e : Expr} (h : PE X e (tE P G W c)) : PO X (some e) (tP P G W (.cons c .nil)) := by
  refine ⟨fun pins s σ H Q J ⟨F, I, S, m, hh⟩ => (po_some h).run pins s σ H Q J ⟨F, I, S, m, ?_⟩⟩
  simp only [evP] at hh
  refine hh.bind.mono fun r S1 I1 H1 x1 m1 h1 v tv => ?_
  split at h1
  · rename_i i hr
    have t := tv.to
    rw [hr] at t
    exact ⟨i, t.int, h1.ok m1⟩
  · exact h1.elim
theorem cut_rp {I : Hp} {xs : List V} {ds : List D} (r : RpAll P I xs ds) (lo hi : Option Int) : RpAll P I (cutV xs lo hi) (cutD ds lo hi) := by
  unfold cutV cutD
  rw [r.length]
  exact (r.drop _).take _
theorem e_sl (hK : X.K = P.K) {a : CE} {lo hi : CEs} {x : Expr} {l u : Option Expr} {pos p2 : Pos} (ha : PE X x (tO P G W a)) (hl : PO X l (tP P G W lo)) (hu : PO X u (tP P G W hi)) :
    PE X (.Subscript x (.Slice l u none p2) pos) (tE P G W (.sl a lo hi)) := by
  refine (pe_slice (sl_list.or sl_tupA) ha hl hu).weak fun σ H Q ⟨F, I, S, m, h⟩ => ⟨F, I, S, m, ?_⟩
  simp only [ev] at h
  refine h.bind.mono fun r S1 I1 H1 x1 m1 h1 v ov => ?_
  refine ⟨addF F a v r, I1, S1, ov.more m1, (h1.bind.frame fun z => addF_sub).mono fun ol S2 I2 H2 x2 m2 h2 => ?_⟩
  have m2' : Sm P F I2 H2 σ S2 := m2.weak fun z => addF_sub
  refine ⟨addF F a v r, I2, S2, m2, ((h2 m2').bind.frame fun z => addF_sub).mono fun oh S3 I3 H3 x3 m3 h3 => ?_⟩
  have m3' : Sm P F I3 H3 σ S3 := m3.weak fun z => addF_sub
  obtain ⟨res, e1, h4⟩ := (h3 m3').opt
  obtain ⟨d', l1, l3⟩ := late1_some e1
  have t := late_to m1 ov (x2.trans x3) m3' l1
  have k : Kt P F I3 H3 σ S3 Q res := fun v I' H' x m tv => h4 I' H' x m v tv
  rw [hK]
  unfold cutOf at l3
  split at l3
  · simp only [Option.some.injEq] at l3
    subst l3
    obtain ⟨b, xs, rfl, h5, z, r5⟩ := t.lst m3'.sub
    refine .inl ⟨b, xs, rfl, .of h5, fun p hp => k.newL m3' hp ?_ (cut_rp r5 _ _)⟩
    exact Nat.le_trans (cutV_length _ _ _) z
  · simp only [Option.some.injEq] at l3
    subst l3
    obtain ⟨b, xs, rfl, i5, h5, z, r5⟩ := t.tup m3'.sub
    refine .inr ⟨b, xs, rfl, .of h5, fun hw => ?_, fun _ p hp => k.newT m3' hp ?_ (cut_rp r5 _ _)⟩
    · refine k.imm m3' (.tup i5 z ?_)
      have e2 : cutV xs ol oh = xs := by
        unfold cutV
        rw [hw.1, hw.2]
        simp
      rw [← e2]
      exact cut_rp r5 _ _
    · exact Nat.le_trans (cutV_length _ _ _) z
  · cases l3
end
end Ev

set_option Elab.async false
set_option linter.all false
set_option maxRecDepth 100000
set_option maxHeartbeats 4000000
set_option autoImplicit false
/-! Ev9: what is walked. -/
namespace Ev
open PySem PySem.Spec PyProof.Rows L2

mutual
theorem eqD_eq : ∀ {x y : D}, eqD x y = true → x = y
  | .none, .none, _ => rfl
  | .bool a, .bool b, h => by simpa [eqD] using h
  | .int i, .int j, h => by simpa [eqD] using h
  | .str a, .str b, h => by simpa [eqD] using h
  | .list xs, .list ys, h => by
    simp only [eqD] at h
    rw [eqDs_eq h]
  | .tuple xs, .tuple ys, h => by
    simp only [eqD] at h
    rw [eqDs_eq h]
  | .dict xs, .dict ys, h => by
    simp only [eqD] at h
    rw [eqDp_eq h]
  | .none, .bool _, h | .none, .int _, h | .none, .str _, h | .none, .list _, h | .none, .tuple _, h | .none, .dict _, h => by simp [eqD] at h
  | .bool _, .none, h | .bool _, .int _, h | .bool _, .str _, h | .bool _, .list _, h | .bool _, .tuple _, h | .bool _, .dict _, h => by simp [eqD] at h
  | .int _, .none, h | .int _, .bool _, h | .int _, .str _, h | .int _, .list _, h | .int _, .tuple _, h | .int _, .dict _, h => by simp [eqD] at h
  | .str _, .none, h | .str _, .bool _, h | .str _, .int _, h | .str _, .list _, h | .str _, .tuple _, h | .str _, .dict _, h => by simp [eqD] at h
  | .list _, .none, h | .list _, .bool _, h | .list _, .int _, h | .list _, .str _, h | .list _, .tuple _, h | .list _, .dict _, h => by simp [eqD] at h
  | .tuple _, .none, h | .tuple _, .bool _, h | .tuple _, .int _, h | .tuple _, .str _, h | .tuple _, .list _, h | .tuple _, .dict _, h => by simp [eqD] at h
  | .dict _, .none, h | .dict _, .bool _, h | .dict _, .int _, h | .dict _, .str _, h | .dict _, .list _, h | .dict _, .tuple _, h => by simp [eqD] at h
theorem eqDs_eq : ∀ {xs ys : List D}, eqDs xs ys = true → xs = ys
  | [], [], _ => rfl
  | x :: xs, y :: ys, h => by
    simp only [eqDs, Bool.and_eq_true] at h
    rw [eqD_eq h.1, eqDs_eq h.2]
  | [], _ :: _, h => by simp [eqDs] at h
  | _ :: _, [], h => by simp [eqDs] at h
theorem eqDp_eq : ∀ {xs ys : List (D × D)}, eqDp xs ys = true → xs = ys
  | [], [], _ => rfl
  | (a, b) :: xs, (c, d) :: ys, h => by
    simp only [eqDp, Bool.and_eq_true] at h
    rw [eqD_eq h.1.1, eqD_eq h.1.2, eqDp_eq h.2]
  | [], _ :: _, h => by simp [eqDp] at h
  | _ :: _, [], h => by simp [eqDp] at h
end
mutual
theorem eqD_self : ∀ (x : D), eqD x x = true
  | .none => rfl
  | .bool a => by simp [eqD]
  | .int i => by simp [eqD]
  | .str a => by simp [eqD]
  | .list xs => by simp [eqD, eqDs_self xs]
  | .tuple xs => by simp [eqD, eqDs_self xs]
  | .dict xs => by simp [eqD, eqDp_self xs]
theorem eqDs_self : ∀ (xs : List D), eqDs xs xs = true
  | [] => rfl
  | x :: xs => by simp [eqDs, eqD_self x, eqDs_self xs]
theorem eqDp_self : ∀ (xs : List (D × D)), eqDp xs xs = true
  | [] => rfl
  | (a, b) :: xs => by simp [eqDp, eqD_self a, eqD_self b, eqDp_self xs]
end

/-- what is walked, held fast -/
def Hold (P : Kx) (F : Addr → Prop) (I H : Hp) (σ : L2.St) (lks : Lks) (v : V) (d : D) : Prop :=
  Rp P I v d ∨ (∃ a, v = .ref a ∧ F a ∧ Oc P I H a d) ∨ ∃ i b, (i, d, b) ∈ lks ∧ σ[i]? = some (some v)
theorem lkOk_mem {S : Sts} : ∀ {lks : Lks} {i : Nat} {d : D} {b : Bool}, lkOk S lks = true → (i, d, b) ∈ lks → S[i]? = some (.lk d)
  | (j, e, c) :: r, i, d, b, h, m => by
    simp only [lkOk, Bool.and_eq_true] at h
    rcases List.mem_cons.mp m with q | q
    · cases q
      have h1 := h.1
      split at h1
      · rename_i x hx
        rw [eqD_eq h1] at hx
        exact hx
      · cases h1
    · exact lkOk_mem h.2 q
section
variable {P : Kx} {F : Addr → Prop} {I H I2 H2 : Hp} {σ σ2 : L2.St} {S S2 : Sts} {lks lks' : Lks} {v : V} {d : D}
theorem Hold.to {F2 : Addr → Prop} (h : Hold P F I H σ lks v d) (x : Ext F I H I2 H2) (m : Sm P F2 I2 H2 σ2 S2) (ok : lkOk S2 lks = true) (e : ∀ l ∈ lks, σ2[l.1]? = σ[l.1]?) : To P I2 H2 v d := by
  rcases h with h | ⟨a, e1, f, oc⟩ | ⟨i, b, hm, hs⟩
  · exact .inl (h.mono x.same)
  · exact .inr ⟨a, e1, .of (oc.mono x.same (x.keep a f))⟩
  · have h1 := lkOk_mem ok hm
    obtain ⟨a, h2, _, _, oz, _⟩ := m.own i d (lk_own h1)
    rw [e _ hm, hs] at h2
    cases h2
    exact .inr ⟨a, rfl, oz⟩
theorem Hold.more (h : Hold P F I H σ lks v d) (s : ∀ l ∈ lks, l ∈ lks') : Hold P F I H σ lks' v d := by
  rcases h with h | h | ⟨i, b, hm, hs⟩
  · exact .inl h
  · exact .inr (.inl h)
  · exact .inr (.inr ⟨i, b, s _ hm, hs⟩)
end

section
variable {P : Kx} {F Fx : Addr → Prop} {I H I1 H1 I2 H2 : Hp} {σ : L2.St} {S S1 S2 : Sts} {v : V} {d : D} {r : Bool × D} {a : CE}
theorem lockS_own {x : Addr} (h : OwnAt σ (lockS a S).1 x) : OwnAt σ S x := by
  obtain ⟨i, e, o, hs⟩ := h
  unfold lockS at o
  split at o
  · split at o
    · rename_i j ds hj
      rcases ownS_set o with ⟨rfl, o2⟩ | ⟨_, o2⟩
      · have : e = .list ds := by cases o2; rfl
        subst this
        exact ⟨_, _, ow_own hj, hs⟩
      · exact ⟨i, e, o2, hs⟩
    · exact ⟨i, e, o, hs⟩
    · exact ⟨i, e, o, hs⟩
  · exact ⟨i, e, o, hs⟩
theorem lock_sm (m : Sm P Fx I H σ S) : Sm P Fx I H σ (lockS a S).1 := by
  unfold lockS
  split
  · split
    · rename_i j ds hj
      exact m.relabel (ow_own hj) (.lk _) fun b e oz q => by cases q
    · exact m
    · exact m
  · exact m
theorem Ov.locked {c : CE} (h : Ov P F I H σ S a v r) : Ov P F I H σ (lockS c S).1 a v r := by
  unfold Ov at h ⊢
  split
  · exact h
  · rename_i hv
    split at h
    · exact absurd rfl (hv _)
    · unfold Tv at h ⊢
      split
      · rename_i hr
        rw [if_pos hr] at h
        obtain ⟨b, e, n, f, o, oc⟩ := h
        exact ⟨b, e, n, f, fun z => o (lockS_own z), oc⟩
      · rename_i hr
        rw [if_neg hr] at h
        exact h
theorem lock_hold {ds : List D} (ov : Ov P F I1 H1 σ S1 a v r) (hF : ∀ x, addF F a v r x → Fx x) (x : Ext Fx I1 H1 I2 H2) (m : Sm P Fx I2 H2 σ S2) (e : late a r.2 S2 = some d) (hi : itemsOf d = some ds) :
    Hold P Fx I2 H2 σ (lockS a S2).2 v d := by
  unfold Ov at ov
  unfold late at e
  split at e
  · rename_i i
    obtain ⟨w, h1, h2⟩ := rd_to m e
    rw [ov.1] at h1
    cases h1
    unfold rdS at e
    unfold lockS
    cases hs : S2[i]? with
    | none => rw [hs] at e; cases e
    | some s => cases s with
      | no => rw [hs] at e; cases e
      | sh d' =>
        rw [hs] at e
        cases e
        obtain ⟨w', h3, h4⟩ := m.shr i d hs
        rw [ov.1] at h3
        cases h3
        exact .inl h4
      | ow d' =>
        rw [hs] at e
        cases e
        cases d with
        | list es => exact .inr (.inr ⟨i, true, by simp [hs], ov.1⟩)
        | tuple es =>
          obtain ⟨_, _, _, _, oz, _⟩ := m.own i _ (ow_own hs)
          cases oz with | of h => cases h
        | _ => cases hi
      | lk d' =>
        rw [hs] at e
        cases e
        exact .inr (.inr ⟨i, false, by simp [hs], ov.1⟩)
  · rename_i hv
    cases e
    split at ov
    · exact absurd rfl (hv _)
    · unfold Tv at ov
      split at ov
      · rename_i hr
        obtain ⟨b, e1, n, f, o, oc⟩ := ov
        have hb : Fx b := hF b (by
          unfold addF
          split
          · exact absurd rfl (hv _)
          · exact .inr ⟨hr, e1⟩)
        exact .inr (.inl ⟨b, e1, hb, oc.mono x.same (x.keep b hb)⟩)
      · exact .inl (ov.mono x.same)
end

/-- the turns of a walk -/
def ItD (P : Kx) (F : Addr → Prop) (I H : Hp) (σ : L2.St) (lks : Lks) (ds : List D) (J : It) : Prop := ∀ (i : Nat) (I2 H2 : Hp) (σ2 : L2.St) (S2 : Sts) (F2 : Addr → Prop), Ext F I H I2 H2 → Sm P F2 I2 H2 σ2 S2 → lkOk S2 lks = true → (∀ l ∈ lks, σ2[l.1]? = σ[l.1]?) →
  (i = ds.length → J.stop i H2) ∧ ∀ d, ds[i]? = some d → J.go i H2 ∧ ∀ x H3, J.yld i H2 x H3 → ∃ I3, Ext F2 I2 H2 I3 H3 ∧ Sm P F2 I3 H3 σ2 S2 ∧ Rp P I3 x d
def tI (P : Kx) (G : Gl) (W : WX) (c : CI) : TI := fun σ H R => ∃ F I S, Sm P F I H σ S ∧ Po P F I H σ W (evI G c S) fun x S' I' H' => ∀ J Fx, (∀ a, F a → Fx a) → Sm P Fx I' H' σ S' → ItD P Fx I' H' σ x.2 x.1 J → R J H'
section
variable {P : Kx} {G : Gl} {W : WX} {X : Cx} {tg : Expr}
theorem it_range {F : Addr → Prop} {I H : Hp} {σ : L2.St} {lks : Lks} (lo : Int) (n : Nat) : ItD P F I H σ lks ((List.range n).map fun k => .int (lo + (k : Nat))) (Itr lo n) := by
  intro i I2 H2 σ2 S2 F2 x m ok e
  refine ⟨fun h => (show n ≤ i from by rw [h]; simp), fun d hd => ?_⟩
  rw [List.getElem?_map] at hd
  cases hk : (List.range n)[i]? with
  | none => rw [hk] at hd; cases hd
  | some k =>
    rw [hk] at hd
    obtain ⟨hlt, hk⟩ := List.getElem?_eq_some_iff.mp hk
    rw [List.getElem_range] at hk
    subst hk
    cases hd
    refine ⟨(show i < n from by simpa using hlt), fun y H3 hy => ?_⟩
    obtain ⟨rfl, rfl⟩ := hy
    exact ⟨I2, .refl, m, .int _⟩
theorem small_of {n : Int} (h : smallI n = true) : -(2 ^ 62) ≤ n ∧ n < 2 ^ 62 := by
  unfold smallI at h
  simp only [Bool.and_eq_true, decide_eq_true_eq] at h
  exact h
theorem i_range1 {a : CE} {x : Expr} {p pos : Pos} (hg : L2.Gl X "range") (hm : X.mg "range" = none) (hn : noStar x = true) (ha : PE X x (tE P G W a)) : PI X tg (.Call (.Name "range" p) [x] [] pos) (tI P G W (.range1 a)) := by
  have hs := star_of hn [] X.env
  refine ⟨fun pins s σ H R J ⟨F, I, S, m, h⟩ => (pi_range1 hg hm (pa_cons ha pa_nil hs) hs).run pins s σ H R J ⟨F, I, S, m, ?_⟩⟩
  simp only [evI] at h
  refine h.bind.mono fun r S1 I1 H1 x1 m1 h1 v tv => ?_
  split at h1
  · rename_i n hr
    have t := tv.to
    rw [hr] at t
    split at h1
    · rename_i hz
      refine ⟨n, by rw [t.int], (small_of hz).1, (small_of hz).2, h1.ok m1 _ F (fun _ z => z) m1 (it_range 0 n.toNat)⟩
    · exact h1.elim
  · exact h1.elim
theorem i_range2 {a b : CE} {x y : Expr} {p pos : Pos} (hg : L2.Gl X "range") (hm : X.mg "range" = none) (hn : noStar x = true) (hn2 : noStar y = true) (ha : PE X x (tE P G W a)) (hb : PE X y (tE P G W b)) :
    PI X tg (.Call (.Name "range" p) [x, y] [] pos) (tI P G W (.range2 a b)) := by
  have hs := star_of hn [y] X.env
  have hs2 := star_of hn2 [] X.env
  refine ⟨fun pins s σ H R J ⟨F, I, S, m, h⟩ => (pi_range2 hg hm (pa_cons ha (pa_cons hb pa_nil hs2) hs) (by rw [hs, hs2]; rfl) hs2).run pins s σ H R J ⟨F, I, S, m, ?_⟩⟩
  simp only [evI] at h
  refine h.bind.mono fun r S1 I1 H1 x1 m1 h1 v tv => ⟨F, I1, S1, m1, h1.bind.mono fun r2 S2 I2 H2 x2 m2 h2 w tw => ?_⟩
  split at h2
  · rename_i i j hr hr2
    have t := tv.to
    have t2 := tw.to
    rw [hr] at t
    rw [hr2] at t2
    split at h2
    · rename_i hz
      exact ⟨i, j, by rw [t.int, t2.int], ⟨(small_of hz.1).1, (small_of hz.1).2, (small_of hz.2).1, (small_of hz.2).2⟩, h2.ok m2 _ F (fun _ z => z) m2 (it_range i (j - i).toNat)⟩
    · exact h2.elim
  · exact h2.elim
/-! ### lists, tuples -/
theorem it_seq {F : Addr → Prop} {I H : Hp} {σ : L2.St} {lks : Lks} {a : Addr} {ds : List D} (h : Hold P F I H σ lks (.ref a) (.list ds)) : ItD P F I H σ lks ds (Itl P.K a) := by
  intro i I2 H2 σ2 S2 F2 x m ok e
  obtain ⟨b, xs, e1, h1, z, r⟩ := (h.to x m ok e).lst m.sub
  cases e1
  refine ⟨fun hl => ⟨xs, .of h1, by rw [r.length]; omega⟩, fun d hd => ?_⟩
  obtain ⟨w, hw, rw'⟩ := r.get hd
  refine ⟨⟨xs, w, .of h1, hw⟩, fun y H3 hy => ?_⟩
  obtain ⟨rfl, hy⟩ := hy
  have h2 := hy xs (.of h1)
  rw [hw] at h2
  cases h2
  exact ⟨I2, .refl, m, rw'⟩
theorem it_seqT {F : Addr → Prop} {I H : Hp} {σ : L2.St} {lks : Lks} {a : Addr} {ds : List D} (h : Hold P F I H σ lks (.ref a) (.tuple ds)) : ItD P F I H σ lks ds (Itt P.K a) := by
  intro i I2 H2 σ2 S2 F2 x m ok e
  obtain ⟨b, xs, e1, _, h1, z, r⟩ := (h.to x m ok e).tup m.sub
  cases e1
  refine ⟨fun hl => ⟨xs, .of h1, by rw [r.length]; omega⟩, fun d hd => ?_⟩
  obtain ⟨w, hw, rw'⟩ := r.get hd
  refine ⟨⟨xs, w, .of h1, hw⟩, fun y H3 hy => ?_⟩
  obtain ⟨rfl, hy⟩ := hy
  have h2 := hy xs (.of h1)
  rw [hw] at h2
  cases h2
  exact ⟨I2, .refl, m, rw'⟩
theorem Hold.ref {F : Addr → Prop} {I H : Hp} {σ : L2.St} {lks : Lks} {v : V} {d : D} {ds : List D} (h : Hold P F I H σ lks v d) (hi : itemsOf d = some ds) (t : To P I H v d) : ∃ a, v = .ref a := by
  cases d <;> simp [itemsOf] at hi
  · rcases t with t | ⟨a, e, _⟩
    · cases t; exact ⟨_, rfl⟩
    · exact ⟨a, e⟩
  · rcases t with t | ⟨a, e, _⟩
    · cases t; exact ⟨_, rfl⟩
    · exact ⟨a, e⟩
theorem i_seq (hK : X.K = P.K) {a : CE} {x : Expr} (ha : PE X x (tO P G W a)) : PI X tg x (tI P G W (.seq a)) := by
  refine ⟨fun pins s σ H R J ⟨F, I, S, m, h⟩ => ?_⟩
  simp only [evI] at h
  have go : ∀ (isL : Bool), (∀ r S1, opE a (ev G a) S = .ok r S1 → ∀ d, late a r.2 S1 = some d → ∀ ds, itemsOf d = some ds → (isL = true ↔ d = .list ds)) →
      (if isL = true then iList X.K (tO P G W a) σ H R else iTup X.K (tO P G W a) σ H R) := by
    intro isL hL
    have main : ∀ (fin : V → Hp → Prop), (∀ v I1 H1 S1 r d ds, opE a (ev G a) S = .ok r S1 → late a r.2 S1 = some d → itemsOf d = some ds → ∀ Fx, (∀ a, F a → Fx a) → Sm P Fx I1 H1 σ (lockS a S1).1 → Hold P Fx I1 H1 σ (lockS a S1).2 v d → To P I1 H1 v d →
        (∀ J, ItD P Fx I1 H1 σ (lockS a S1).2 ds J → R J H1) → fin v H1) → tO P G W a σ H fin := by
      intro fin hfin
      refine ⟨F, I, S, m, ?_⟩
      have h' := h.bind
      cases he : opE a (ev G a) S with
      | ok r S1 =>
        rw [he] at h'
        intro I1 H1 x1 m1 v ov
        have h1 := h' I1 H1 x1 m1
        dsimp only at h1
        cases hl : late1 a r.2 S1 itemsOf with
        | none => rw [hl] at h1; exact h1.elim
        | some ds =>
          rw [hl] at h1
          obtain ⟨d, l1, l2⟩ := late1_some hl
          have mx := ov.more m1
          refine hfin v I1 H1 S1 r d ds he l1 l2 _ (fun _ z => addF_sub z) (lock_sm mx) (lock_hold ov (fun _ z => z) .refl mx l1 l2) (late_to m1 ov .refl m1 l1) fun J hJ => ?_
          exact h1.ok (lock_sm m1) J _ (fun _ z => addF_sub z) (lock_sm mx) hJ
      | ex c S1 =>
        rw [he] at h'
        exact h'
      | bad =>
        rw [he] at h'
        exact h'
    cases isL with
    | true =>
      rw [if_pos rfl, hK]
      refine main _ fun v I1 H1 S1 r d ds he l1 l2 Fx hx mx hh t q => ?_
      have hd := (hL r S1 he d l1 ds l2).mp rfl
      subst hd
      obtain ⟨b, xs, rfl, h1, z, rr⟩ := t.lst mx.sub
      exact ⟨b, rfl, ⟨xs, .of h1⟩, q _ (it_seq hh)⟩
    | false =>
      rw [if_neg Bool.false_ne_true, hK]
      refine main _ fun v I1 H1 S1 r d ds he l1 l2 Fx hx mx hh t q => ?_
      have hd : d = .tuple ds := by
        have := hL r S1 he d l1 ds l2
        cases d <;> simp [itemsOf] at l2
        · subst l2
          exact absurd (this.mpr rfl) Bool.false_ne_true
        · subst l2; rfl
      subst hd
      obtain ⟨b, xs, rfl, _, h1, z, rr⟩ := t.tup mx.sub
      exact ⟨b, rfl, ⟨xs, .of h1⟩, q _ (it_seqT hh)⟩
  by_cases hL : ∃ r S1 ds, opE a (ev G a) S = .ok r S1 ∧ late a r.2 S1 = some (.list ds)
  · obtain ⟨r0, S0, ds0, e0, l0⟩ := hL
    refine (pi_list ha).run pins s σ H R J ((if_pos rfl).mp (go true fun r S1 he d l ds hi => ?_))
    rw [e0] at he
    cases he
    rw [l0] at l
    cases l
    simp only [itemsOf, Option.some.injEq] at hi
    subst hi
    exact ⟨fun _ => rfl, fun _ => rfl⟩
  · refine (pi_tup ha).run pins s σ H R J ((if_neg Bool.false_ne_true).mp (go false fun r S1 he d l ds hi => ?_))
    refine ⟨fun z => absurd z Bool.false_ne_true, fun z => ?_⟩
    subst z
    exact absurd ⟨r, S1, ds, he, l⟩ hL
end
end Ev

set_option Elab.async false
set_option linter.all false
set_option maxRecDepth 100000
set_option maxHeartbeats 4000000
set_option autoImplicit false
/-! Ev10: zip of two sequences, each a list or a tuple; enumerate. -/
namespace Ev
open PySem PySem.Spec PyProof.Rows L2

/-- k: a list, else a tuple -/
def Sq (K : PySem.W.Frag) : Bool → Hp → Addr → List V → Prop
  | true => SqL K
  | false => SqT K
def IterAt : Bool → Heap → Addr → Addr → Nat → Prop
  | true, h, it, a, i => h.IsListIter it a i
  | false, h, it, a, i => h.IsTupleIter it a i
def SeqAt : Bool → Heap → Addr → Array Value → Prop
  | true, h, a, vs => h.IsList a vs
  | false, h, a, vs => h.IsTuple a vs
def oIt : Bool → Addr → Obj
  | true, a => { cls := .type "list_iterator", data := .fields #[.ref a, .int 0 0] }
  | false, a => { cls := .type "tuple_iterator", data := .fields #[.ref a, .int 0 0] }
theorem drawsK {prog : Program} {w : World} {A : Around} (k : Bool) (hh : A.handled = none) (it a : Addr) (hne : a ≠ it) (vs : Array Value) :
    Draws prog w A it [it, a] vs.size (fun i v => vs[i]? = some v) fun i h => IterAt k h it a i ∧ SeqAt k h a vs := by
  cases k with
  | true => exact Draws.list hh it a hne vs
  | false => exact Draws.tuple hh it a hne vs
theorem beginsK (k : Bool) (a : Addr) (vs : Array Value) : Begins (.ref a) (oIt k a) fun h => SeqAt k h a vs := by
  cases k with
  | true => exact begins_list a vs
  | false => exact begins_tuple a vs
theorem IterAt.keep {k : Bool} {h h' : Heap} {it a : Addr} {i : Nat} (x : IterAt k h it a i) (q : ∀ o, h.get? it = some o → h'.get? it = some o) : IterAt k h' it a i := by
  cases k with
  | true => exact PySem.Heap.IsListIter.at x q
  | false => exact PySem.Heap.IsTupleIter.at x q
theorem IterAt.obj {k : Bool} {h : Heap} {it a : Addr} {i : Nat} (x : IterAt k h it a i) : ∃ o, h.get? it = some o ∧ ∀ v, o.data ≠ .cell v := by
  cases k with
  | true =>
    obtain ⟨o, e, _, d⟩ := x
    exact ⟨o, e, fun v q => by rw [d] at q; cases q⟩
  | false =>
    obtain ⟨o, e, _, d⟩ := x
    exact ⟨o, e, fun v q => by rw [d] at q; cases q⟩
theorem iter_new {k : Bool} {h : Heap} {it a : Addr} (e : h.get? it = some (oIt k a)) : IterAt k h it a 0 := by
  cases k with
  | true => exact ⟨_, e, rfl, rfl⟩
  | false => exact ⟨_, e, rfl, rfl⟩
section
variable {X : Cx} {pins : List (Addr × Obj)} {σ : L2.St} {H : Hp} {s : Shared} {k : Bool} {a : Addr} {xs ys : List V}
theorem sq_at (I : Inv X pins σ H s) (h : Sq X.K k H a xs) : ∃ vs : List Value, Vals xs vs ∧ SeqAt k s.heap a vs.toArray := by
  cases k with
  | true =>
    obtain ⟨vs, r, p, _⟩ := I.list h
    exact ⟨vs, r, p.isList⟩
  | false =>
    obtain ⟨vs, r, p, _⟩ := I.tuple h
    exact ⟨vs, r, p⟩
theorem sq_inj (I : Inv X pins σ H s) (h : Sq X.K k H a xs) (h' : Sq X.K k H a ys) : xs = ys := by
  cases k with
  | true => exact I.list_inj h h'
  | false => exact I.tuple_inj h h'
theorem sq_lt (I : Inv X pins σ H s) (h : Sq X.K k H a xs) : a < s.heap.objs.size := by
  cases k with
  | true =>
    obtain ⟨vs, r, p, _⟩ := I.list h
    exact p.lt
  | false =>
    obtain ⟨vs, r, p, _⟩ := I.tuple h
    obtain ⟨o, e, _⟩ := id p
    exact Heap.lt_size e
end
/-- pairs of what stands at a and at b -/
def Itm (K : PySem.W.Frag) (k l : Bool) (a b : Addr) : It where
  go i H := ∃ (xs ys : List V) (x y : V), Sq K k H a xs ∧ Sq K l H b ys ∧ xs[i]? = some x ∧ ys[i]? = some y
  yld i H v H' := ∃ (T : Addr) (x y : V), v = .ref T ∧ H T = none ∧ H' = upd H T (.tup [x, y]) ∧ (∀ xs, Sq K k H a xs → xs[i]? = some x) ∧ ∀ ys, Sq K l H b ys → ys[i]? = some y
  stop i H := ∃ xs ys : List V, Sq K k H a xs ∧ Sq K l H b ys ∧ i ≤ xs.length ∧ i ≤ ys.length ∧ (i = xs.length ∨ i = ys.length)
theorem turn_zm {P : Program} {w : World} {K : PySem.W.Frag} {es : List Expr} {n : Nat} {tp : Pos} {k l : Bool} {a b z TI TO i1 i2 : Addr} (S : ZipSep2 z TI TO i1 i2 [i1, a] [i2, b]) (ha : a ≠ i1) (hb : b ≠ i2) :
    Turn P w K (.Tuple es n tp) (Itm K k l a b) [z, TI, TO, i1, i2] z (fun i h => IsZip h z TI TO .none ∧ IsTupOf2 h TI (.ref i1) (.ref i2) ∧ (∃ x y, IsTupOf2 h TO x y) ∧ IterAt k h i1 a i ∧ IterAt l h i2 b i) where
  mem := List.mem_cons_self
  obj := fun i h ⟨hz, hTI, ⟨x, y, hTO⟩, h1, h2⟩ c hc => by
    simp only [List.mem_cons, List.not_mem_nil, or_false] at hc
    rcases hc with rfl | rfl | rfl | rfl | rfl
    · exact ⟨_, hz, fun v q => nomatch q⟩
    · exact ⟨_, hTI, fun v q => nomatch q⟩
    · exact ⟨_, hTO, fun v q => nomatch q⟩
    · exact h1.obj
    · exact h2.obj
  keep := fun i h h' ⟨hz, hTI, ⟨x, y, hTO⟩, h1, h2⟩ kp =>
    ⟨kp z (by simp) _ hz, kp TI (by simp) _ hTI, ⟨x, y, kp TO (by simp) _ hTO⟩, h1.keep (kp i1 (by simp)), h2.keep (kp i2 (by simp))⟩
  item := by
    intro X e1 e2 e3 hc i pins s σ H E I hf ⟨hz, hTI, ⟨x0, y0, hTO⟩, h1, h2⟩ hg
    subst e1 e2 e3
    obtain ⟨xs, ys, x, y, qx, qy, hx, hy⟩ := hg
    obtain ⟨us, ru, su⟩ := sq_at I qx
    obtain ⟨vs, rv, sv⟩ := sq_at I qy
    obtain ⟨u, hu, rxu⟩ := ru.get hx
    obtain ⟨v, hv, ryv⟩ := rv.get hy
    have zl : z < s.heap.objs.size := Heap.lt_size hz
    have hh : X.A.in1.handled = none := I.ok.hd hc
    have lu : i < us.length := (List.getElem?_eq_some_iff.mp hu).1
    have lv : i < vs.length := (List.getElem?_eq_some_iff.mp hv).1
    refine wpAny_pyNext_zipD2_item S (drawsK k hh i1 a ha us.toArray) (drawsK l hh i2 b hb vs.toArray) hz hTI hTO ⟨h1, su⟩ ⟨h2, sv⟩ (by simpa using lu) (by simpa using lv) fun u' v' h' tk eu ev z' TO' st1 st2 hT hsz hk => ?_
    have eu' : u' = u := by
      have q : us.toArray[i]? = some u := by simpa using hu
      rw [q] at eu
      exact (Option.some.inj eu).symm
    have ev' : v' = v := by
      have q : vs.toArray[i]? = some v := by simpa using hv
      rw [q] at ev
      exact (Option.some.inj ev).symm
    subst eu' ev'
    refine ⟨_, rfl, wpAny_letOwnedTupleGo_zip (s := { s with heap := h', toks := tk }) z' fun h'' z'' sb => ?_⟩
    have hT2 := (sb.2 _ (Nat.ne_of_gt zl)).trans hT
    have new : ObjOk X.prog X.w (upd H s.heap.objs.size (.tup [x, y])) h'' s.heap.objs.size (.tup [x, y]) :=
      ⟨show 2 ≤ sizeLine by decide, [u', v'], .cons rxu (.cons ryv .nil), ⟨_, hT2, rfl, _, rfl⟩⟩
    have kk : ∀ c o, c ∉ [z, TI, TO, i1, i2] → s.heap.get? c = some o → h''.get? c = some o := fun c o hn q => by
      simp only [List.mem_cons, List.not_mem_nil, or_false, not_or] at hn
      exact (sb.2 c hn.1).trans (hk c o hn.1 hn.2.2.1 hn.2.2.2.1 hn.2.2.2.2 q)
    have J := I.turnedNew (t' := tk) kk hf (Nat.le_refl _) new
    have ne : ∀ c ∈ [z, TI, TO, i1, i2], c < s.heap.objs.size := fun c hcm => by
      simp only [List.mem_cons, List.not_mem_nil, or_false] at hcm
      rcases hcm with rfl | rfl | rfl | rfl | rfl
      · exact zl
      · exact Heap.lt_size hTI
      · exact Heap.lt_size hTO
      · exact Heap.lt_size h1.obj.choose_spec.1
      · exact Heap.lt_size h2.obj.choose_spec.1
    refine ⟨.ref s.heap.objs.size, _, J, rfl, ⟨s.heap.objs.size, x, y, rfl, I.hok.fresh (Nat.le_refl _), rfl, fun l hl => by rw [sq_inj I hl qx]; exact hx, fun l hl => by rw [sq_inj I hl qy]; exact hy⟩, ⟨z'', ?_, ⟨u', v', (sb.2 _ S.TOz).trans TO'⟩, ?_, ?_⟩, fun c hcm => ?_⟩
    · exact (sb.2 _ S.TIz).trans (hk _ _ S.TIz S.TITO S.TIi1 S.TIi2 hTI)
    · exact st1.1.keep fun o q => (sb.2 _ (Ne.symm S.zi1)).trans q
    · exact st2.1.keep fun o q => (sb.2 _ (Ne.symm S.zi2)).trans q
    · rw [upd_ne (Nat.ne_of_lt (ne c hcm))]
      exact (hf c hcm).1
  done := by
    intro X e1 e2 e3 hc i pins s σ H E I hf ⟨hz, hTI, ⟨x0, y0, hTO⟩, h1, h2⟩ hg
    subst e1 e2 e3
    obtain ⟨xs, ys, qx, qy, l1, l2, hend⟩ := hg
    obtain ⟨us, ru, su⟩ := sq_at I qx
    obtain ⟨vs, rv, sv⟩ := sq_at I qy
    have lu := ru.length
    have lv := rv.length
    have hh : X.A.in1.handled = none := I.ok.hd hc
    refine wpAny_pyNext_zipD2_end S (drawsK k hh i1 a ha us.toArray) (drawsK l hh i2 b hb vs.toArray) hz hTI hTO ⟨h1, su⟩ ⟨h2, sv⟩ (by simp; omega) (by simp; omega) (by simp; omega) fun h' tk hk => ?_
    refine ⟨rfl, I.turnedL (t' := tk) (ch := [z, TI, TO, i1, i2]) (fun c o hn q => ?_) hf⟩
    simp only [List.mem_cons, List.not_mem_nil, or_false, not_or] at hn
    exact hk c o hn.1 hn.2.2.1 hn.2.2.2.1 hn.2.2.2.2 q
  self := fun A i s Q E st h => wpAny_pyIter_zip st.1 h
def iZm (K : PySem.W.Frag) (ta : TA) : TI := fun σ H R => ta σ H fun vs H1 => ∃ (k l : Bool) (a b : Addr) (xs ys : List V), vs = [.ref a, .ref b] ∧ Sq K k H1 a xs ∧ Sq K l H1 b ys ∧ R (Itm K k l a b) H1
theorem pi_zm {X : Cx} {e e2 : Expr} {ta : TA} {p pos tp : Pos} {es : List Expr} {n : Nat} (hg : L2.Gl X "zip") (hm : X.mg "zip" = none) (ha : PA X [e, e2] ta) (hn : noStar e = true) (hn2 : noStar e2 = true) :
    PI X (.Tuple es n tp) (.Call (.Name "zip" p) [e, e2] [] pos) (iZm X.K ta) := by
  refine ⟨fun pins s σ H R I h => Call_ (ld_blt I hg hm boot_zip (callWith_type1 (thn (ha.run pos pins s σ H _ I h) fun us s1 ⟨vs, H1, I1, r1, q1⟩ => ?_) (star_of hn [e2] X.env) (star_all (by simp [hn2]) pos X.env)))⟩
  obtain ⟨k, l, a, b, xs, ys, rfl, qx, qy, q⟩ := q1
  obtain ⟨u1, u2, rfl, ra, rb⟩ := vals2 r1
  cases ra
  cases rb
  obtain ⟨us, ru, su⟩ := sq_at I1 qx
  obtain ⟨vs, rv, sv⟩ := sq_at I1 qy
  have la := sq_lt I1 qx
  have lb := sq_lt I1 qy
  refine zip_begins2 (beginsK k a us.toArray) (beginsK l b vs.toArray) su sv fun h' hz hTI hTO g1 g2 hsz hk => wpAny_pyIter_zip hz ?_
  have I2 := I1.kept (t' := s1.toks) hk
  have S := zip_sep2 (N := s1.heap.objs.size) (fp1 := [a]) (fp2 := [b]) (fun c hc => by simp at hc; subst hc; exact la) (fun c hc => by simp at hc; subst hc; exact lb)
  refine ⟨_, [s1.heap.objs.size + 4, s1.heap.objs.size + 2, s1.heap.objs.size + 3, s1.heap.objs.size, s1.heap.objs.size + 1], _, _, H1, rfl, I2, turn_zm S (Nat.ne_of_lt la) (Nat.ne_of_lt (Nat.lt_succ_of_lt lb)), ⟨hz, hTI, ⟨_, _, hTO⟩, iter_new g1, iter_new g2⟩, fun c hcm => ?_, q⟩
  have hle : s1.heap.objs.size ≤ c := by
    simp only [List.mem_cons, List.not_mem_nil, or_false] at hcm
    rcases hcm with rfl | rfl | rfl | rfl | rfl <;> first | exact Nat.le_add_right _ _ | exact Nat.le_refl _
  exact I1.fpOk hle (I1.hok.fresh hle)

/-! ### zip, enumerate as the evaluator has them -/
def isL : D → Bool
  | .list _ => true
  | _ => false
section
variable {P : Kx} {G : Gl} {W : WX} {X : Cx} {F : Addr → Prop} {I H : Hp} {σ : L2.St} {lks : Lks}
theorem to_sq {v : V} {d : D} {ds : List D} (hsub : ∀ a o, I a = some o → H a = some o) (t : To P I H v d) (e : itemsOf d = some ds) : ∃ a xs, v = .ref a ∧ Sq P.K (isL d) H a xs ∧ RpAll P I xs ds ∧ xs.length ≤ szl := by
  cases d <;> simp [itemsOf] at e
  · subst e
    obtain ⟨a, xs, rfl, h1, z, r⟩ := t.lst hsub
    exact ⟨a, xs, rfl, .of h1, r, z⟩
  · subst e
    obtain ⟨a, xs, rfl, _, h1, z, r⟩ := t.tup hsub
    exact ⟨a, xs, rfl, .of h1, r, z⟩
theorem it_zm {a b : Addr} {d e : D} {ds es : List D} (h1 : Hold P F I H σ lks (.ref a) d) (e1 : itemsOf d = some ds) (h2 : Hold P F I H σ lks (.ref b) e) (e2 : itemsOf e = some es) :
    ItD P F I H σ lks (List.zipWith (fun x y => .tuple [x, y]) ds es) (Itm P.K (isL d) (isL e) a b) := by
  intro i I2 H2 σ2 S2 F2 x m ok hs
  obtain ⟨a', xs, q1, sx, rx, zx⟩ := to_sq m.sub (h1.to x m ok hs) e1
  cases q1
  obtain ⟨b', ys, q2, sy, ry, zy⟩ := to_sq m.sub (h2.to x m ok hs) e2
  cases q2
  have lx := rx.length
  have ly := ry.length
  refine ⟨fun hl => ⟨xs, ys, sx, sy, ?_⟩, fun g hg => ?_⟩
  · rw [List.length_zipWith] at hl
    omega
  · rw [List.getElem?_zipWith] at hg
    cases hd : ds[i]? with
    | none => rw [hd] at hg; cases hg
    | some d1 => cases he : es[i]? with
      | none => rw [hd, he] at hg; cases hg
      | some d2 =>
        rw [hd, he] at hg
        cases hg
        obtain ⟨v, hv, rv⟩ := rx.get hd
        obtain ⟨w, hw, rw'⟩ := ry.get he
        refine ⟨⟨xs, ys, v, w, sx, sy, hv, hw⟩, fun y H3 hy => ?_⟩
        obtain ⟨T, v', w', rfl, hT, rfl, f1, f2⟩ := hy
        have e3 := f1 xs sx
        have e4 := f2 ys sy
        rw [hv] at e3
        rw [hw] at e4
        cases e3
        cases e4
        obtain ⟨m3, x3⟩ := m.newI (o := .tup [v, w]) hT
        exact ⟨_, x3, m3, .tup upd_same (by show 2 ≤ szl; decide) (.cons (rv.mono x3.same) (.cons (rw'.mono x3.same) .nil))⟩
theorem it_enum {a : Addr} {ds : List D} (h : Hold P F I H σ lks (.ref a) (.list ds)) : ItD P F I H σ lks (ds.zipIdx.map fun p => .tuple [.int (p.2 : Nat), p.1]) (Ite P.K a) := by
  intro i I2 H2 σ2 S2 F2 x m ok hs
  obtain ⟨b, xs, q1, h1, z, r⟩ := (h.to x m ok hs).lst m.sub
  cases q1
  have lx := r.length
  refine ⟨fun hl => ⟨xs, .of h1, ?_⟩, fun g hg => ?_⟩
  · rw [List.length_map, List.length_zipIdx] at hl
    omega
  · rw [List.getElem?_map, List.getElem?_zipIdx] at hg
    cases hd : ds[i]? with
    | none => rw [hd] at hg; cases hg
    | some d =>
      rw [hd] at hg
      simp only [Option.map_some, Nat.zero_add, Option.some.injEq] at hg
      subst hg
      obtain ⟨v, hv, rv⟩ := r.get hd
      refine ⟨⟨xs, v, .of h1, hv⟩, fun y H3 hy => ?_⟩
      obtain ⟨T, v', rfl, hT, rfl, f1⟩ := hy
      have e3 := f1 xs (.of h1)
      rw [hv] at e3
      cases e3
      obtain ⟨m3, x3⟩ := m.newI (o := .tup [.int (i : Nat), v]) hT
      exact ⟨_, x3, m3, .tup upd_same (by show 2 ≤ szl; decide) (.cons (.int _) (.cons (rv.mono x3.same) .nil))⟩
theorem Tv.lk {c : CE} {S : Sts} {v : V} {r : Bool × D} (h : Tv P F I H σ S v r) : Tv P F I H σ (lockS c S).1 v r := by
  unfold Tv at h ⊢
  split
  · rename_i hr
    rw [if_pos hr] at h
    obtain ⟨b, e, n, f, o, oc⟩ := h
    exact ⟨b, e, n, f, fun z => o (lockS_own z), oc⟩
  · rename_i hr
    rw [if_neg hr] at h
    exact h
theorem i_zip (hK : X.K = P.K) {a b : CE} {x y : Expr} {es : List Expr} {n : Nat} {p pos tp : Pos} (hg : L2.Gl X "zip") (hm : X.mg "zip" = none) (hn : noStar x = true) (hn2 : noStar y = true) (ha : PE X x (tO P G W a)) (hb : PE X y (tO P G W b)) :
    PI X (.Tuple es n tp) (.Call (.Name "zip" p) [x, y] [] pos) (tI P G W (.zip a b)) := by
  refine ⟨fun pins s σ H R J ⟨F, I, S, m, h⟩ => (pi_zm hg hm (pa_cons ha (pa_cons hb pa_nil (star_of hn2 [] _)) (star_of hn [y] _)) hn hn2).run pins s σ H R J ⟨F, I, S, m, ?_⟩⟩
  simp only [evI] at h
  refine h.bind.mono fun r S1 I1 H1 x1 m1 h1 v ov => ?_
  refine ⟨addF F a v r, I1, S1, ov.more m1, (h1.bind.frame fun z => addF_sub).mono fun r2 S2 I2 H2 x2 m2 h2 w ow => ?_⟩
  have m2' : Sm P F I2 H2 σ S2 := m2.weak fun z => addF_sub
  have h3 := h2 m2'
  cases e1 : late1 a r.2 S2 itemsOf with
  | none => rw [e1] at h3; exact h3.elim
  | some ds => cases e2 : late1 b r2.2 (lockS a S2).1 itemsOf with
    | none => rw [e1, e2] at h3; exact h3.elim
    | some ds2 =>
      rw [e1, e2] at h3
      obtain ⟨d, l1, k1⟩ := late1_some e1
      obtain ⟨d2, l2, k2⟩ := late1_some e2
      have mx := ow.more m2
      have mxa := lock_sm (a := a) mx
      have mxb := lock_sm (a := b) mxa
      have hF : ∀ z, addF F a v r z → addF (addF F a v r) b w r2 z := fun z q => addF_sub q
      have ow' : Ov P (addF F a v r) I2 H2 σ (lockS a S2).1 b w r2 := ow.locked
      have x2' : Ext (addF (addF F a v r) b w r2) I2 H2 I2 H2 := .refl
      have hold1 : Hold P (addF (addF F a v r) b w r2) I2 H2 σ (lockS a S2).2 v d := by
        have q := lock_hold ov (fun z q => q) x2 m2 l1 k1
        rcases q with q | ⟨c, c1, c2, c3⟩ | q
        · exact .inl q
        · exact .inr (.inl ⟨c, c1, hF c c2, c3⟩)
        · exact .inr (.inr q)
      have hold2 := lock_hold ow' (fun z q => q) x2' mxa l2 k2
      obtain ⟨aa, xs, rfl, sx, rx, zx⟩ := to_sq m2'.sub (late_to m1 ov x2 m2' l1) k1
      have t2 : To P I2 H2 w d2 := late_to (lock_sm (a := a) m2) ow' .refl (lock_sm (a := a) m2) l2
      obtain ⟨bb, ys, rfl, sy, ry, zy⟩ := to_sq m2'.sub t2 k2
      rw [hK]
      refine ⟨isL d, isL d2, aa, bb, xs, ys, rfl, sx, sy, h3.ok (lock_sm (lock_sm m2')) _ _ (fun z q => hF z (addF_sub q)) mxb ?_⟩
      exact it_zm (hold1.more fun l q => List.mem_append_left _ q) k1 (hold2.more fun l q => List.mem_append_right _ q) k2
theorem i_enum (hK : X.K = P.K) {a : CE} {x : Expr} {es : List Expr} {n : Nat} {p pos tp : Pos} (hg : L2.Gl X "enumerate") (hm : X.mg "enumerate" = none) (hn : noStar x = true) (ha : PE X x (tO P G W a)) :
    PI X (.Tuple es n tp) (.Call (.Name "enumerate" p) [x] [] pos) (tI P G W (.enum a)) := by
  have hs := star_of hn [] X.env
  refine ⟨fun pins s σ H R J ⟨F, I, S, m, h⟩ => (pi_enum hg hm (pa_cons ha pa_nil hs) hs).run pins s σ H R J ⟨F, I, S, m, ?_⟩⟩
  simp only [evI] at h
  refine h.bind.mono fun r S1 I1 H1 x1 m1 h1 v ov => ?_
  cases e1 : late1 a r.2 S1 onlyL with
  | none => rw [e1] at h1; exact h1.elim
  | some ds =>
    rw [e1] at h1
    obtain ⟨d, l1, k1⟩ := late1_some e1
    have mx := ov.more m1
    have k2 : d = .list ds := by
      cases d <;> simp [onlyL] at k1
      rw [k1]
    subst k2
    obtain ⟨b, xs, rfl, h2, z, rr⟩ := (late_to m1 ov .refl m1 l1).lst m1.sub
    rw [hK]
    refine ⟨b, xs, rfl, .of h2, h1.ok (lock_sm m1) _ _ (fun _ z => addF_sub z) (lock_sm mx) (it_enum (lock_hold ov (fun _ z => z) .refl mx l1 rfl))⟩
end
end Ev

set_option Elab.async false
set_option linter.all false
set_option maxRecDepth 100000
set_option maxHeartbeats 4000000
set_option autoImplicit false
/-! Ev11: targets; list comprehensions. -/
namespace Ev
open PySem PySem.Spec PyProof.Rows L2

def W0 : WX := fun _ _ _ _ => False
theorem Rs.bind_assoc {α β γ : Type} (r : Rs α) (f : α → Sts → Rs β) (g : β → Sts → Rs γ) : (r.bind f).bind g = r.bind fun a S => (f a S).bind g := by cases r <;> rfl

/-! ### slots forgotten, and back -/
theorem wipe_get {σ : L2.St} : ∀ {vs : List Nat} {j : Nat}, (wipe σ vs)[j]? = if j ∈ vs then σ[j]?.map (fun _ => none) else σ[j]?
  | [], j => by simp [wipe]
  | v :: vs, j => by
    unfold wipe
    rw [List.getElem?_set]
    by_cases h : v = j
    · subst h
      rw [wipe_length]
      by_cases hl : v < σ.length
      · simp [hl]
      · simp [hl, List.getElem?_eq_none (Nat.le_of_not_lt hl)]
    · rw [if_neg h, wipe_get]
      have h' : ¬ j = v := fun e => h e.symm
      by_cases hv : j ∈ vs <;> simp [hv, h']
theorem wipe_eq {σ1 σ2 : L2.St} {vs : List Nat} (h : ∀ j, j ∉ vs → σ1[j]? = σ2[j]?) (hl : σ1.length = σ2.length) : wipe σ1 vs = wipe σ2 vs := by
  apply List.ext_getElem?
  intro j
  rw [wipe_get, wipe_get]
  by_cases hj : j ∈ vs
  · rw [if_pos hj, if_pos hj]
    by_cases hlt : j < σ1.length
    · rw [List.getElem?_eq_getElem hlt, List.getElem?_eq_getElem (by omega)]
      rfl
    · rw [List.getElem?_eq_none (by omega), List.getElem?_eq_none (by omega)]
  · rw [if_neg hj, if_neg hj, h j hj]
theorem wipe_idem {σ : L2.St} {vs : List Nat} : wipe (wipe σ vs) vs = wipe σ vs := by
  apply wipe_eq
  · intro j hj
    rw [wipe_get, if_neg hj]
  · rw [wipe_length]
theorem wipeS_get : ∀ {vs : List Nat} {S : Sts} {j : Nat}, (wipeS S vs)[j]? = if j ∈ vs then S[j]?.map (fun _ => Sl.no) else S[j]?
  | [], S, j => by simp [wipeS]
  | v :: vs, S, j => by
    unfold wipeS
    rw [wipeS_get, List.getElem?_set]
    by_cases h : v = j
    · subst h
      by_cases hl : v < S.length
      · by_cases hv : v ∈ vs <;> simp [hl, hv]
      · by_cases hv : v ∈ vs <;> simp [hl, hv, List.getElem?_eq_none (Nat.le_of_not_lt hl)]
    · have h' : ¬ j = v := fun e => h e.symm
      by_cases hv : j ∈ vs <;> simp [hv, h', h]
theorem wipeS_length : ∀ {vs : List Nat} {S : Sts}, (wipeS S vs).length = S.length
  | [], S => rfl
  | v :: vs, S => by
    unfold wipeS
    rw [wipeS_length, List.length_set]
theorem backS_length {S0 : Sts} : ∀ {vs : List Nat} {S : Sts}, (backS S0 S vs).length = S.length
  | [], S => rfl
  | v :: vs, S => by
    unfold backS
    rw [backS_length]
    split <;> simp
theorem backS_get {S0 : Sts} : ∀ {vs : List Nat} {S : Sts} {j : Nat}, S.length = S0.length → (backS S0 S vs)[j]? = if j ∈ vs then S0[j]? else S[j]?
  | [], S, j, _ => by simp [backS]
  | v :: vs, S, j, hl => by
    unfold backS
    cases hv : S0[v]? with
    | none =>
      rw [backS_get hl]
      by_cases h : j ∈ vs
      · simp [h]
      · by_cases e : j = v
        · subst e
          have : S0.length ≤ j := List.getElem?_eq_none_iff.mp hv
          simp [h, hv, List.getElem?_eq_none (by omega : S.length ≤ j)]
        · simp [h, e]
    | some s =>
      have hlt := (List.getElem?_eq_some_iff.mp hv).1
      simp only []
      rw [backS_get (by rw [List.length_set]; exact hl), List.getElem?_set]
      by_cases h : j ∈ vs
      · simp [h]
      · by_cases e : v = j
        · subst e
          simp [h, hv, (by omega : v < S.length)]
        · have e' : ¬ j = v := fun q => e q.symm
          simp [h, e, e']
section
variable {P : Kx} {F : Addr → Prop} {I H I2 H2 : Hp} {σ σ' : L2.St} {S S' : Sts}
/-- less is told of the slots -/
theorem Sm.re (m : Sm P F I H σ S) (hl : S'.length = σ'.length) (hs : ∀ (i : Nat) (d : D), S'[i]? = some (Sl.sh d) → S[i]? = some (Sl.sh d) ∧ σ'[i]? = σ[i]?) (ho : ∀ (i : Nat) (d : D), ownS S' i d → S'[i]? = S[i]? ∧ σ'[i]? = σ[i]?) : Sm P F I H σ' S' := by
  have up : ∀ {i d}, ownS S' i d → ownS S i d := fun {i d} ⟨s, e, o⟩ => ⟨s, by rw [← (ho i d ⟨s, e, o⟩).1]; exact e, o⟩
  refine ⟨m.sub, m.frm, hl, fun i d e => ?_, fun i d o => ?_, fun i j d e a o1 o2 h1 h2 => ?_⟩
  · obtain ⟨h1, h2⟩ := hs i d e
    rw [h2]
    exact m.shr i d h1
  · obtain ⟨h1, h2⟩ := ho i d o
    rw [h1, h2]
    exact m.own i d (up o)
  · rw [(ho i d o1).2] at h1
    rw [(ho j e o2).2] at h2
    exact m.dis i j d e a (up o1) (up o2) h1 h2
theorem Sm.wiped (m : Sm P F I H σ S) (vs : List Nat) : Sm P F I H (wipe σ vs) (wipeS S vs) := by
  refine m.re (by rw [wipeS_length, wipe_length]; exact m.len) (fun i d e => ?_) fun i d ⟨s, e, o⟩ => ?_
  · rw [wipeS_get] at e
    by_cases h : i ∈ vs
    · rw [if_pos h] at e
      cases hs : S[i]? with
      | none => rw [hs] at e; cases e
      | some s => rw [hs] at e; cases e
    · rw [if_neg h] at e
      exact ⟨e, by rw [wipe_get, if_neg h]⟩
  · rw [wipeS_get] at e ⊢
    by_cases h : i ∈ vs
    · rw [if_pos h] at e
      cases hs : S[i]? with
      | none => rw [hs] at e; cases e
      | some s' =>
        rw [hs] at e
        cases e
        exact (notOwn_no o).elim
    · rw [if_neg h, wipe_get, if_neg h]
      exact ⟨rfl, rfl⟩
theorem noOwn_at {vs : List Nat} (h : noOwn S vs = true) {i : Nat} (hi : i ∈ vs) {d : D} : ¬ ownS S i d := fun ⟨s, e, o⟩ => by
  have q := List.all_eq_true.mp h i hi
  rw [e] at q
  cases o <;> cases q
theorem Sm.back {F0 : Addr → Prop} {vs : List Nat} (m : Sm P F I2 H2 (wipe σ vs) S') (m0 : Sm P F0 I H σ S) (s : Same I I2) (h : noOwn S vs = true) : Sm P F I2 H2 σ (backS S S' vs) := by
  have hl : S'.length = S.length := by rw [m.len, wipe_length, m0.len]
  have up : ∀ {i d}, ownS (backS S S' vs) i d → i ∉ vs ∧ ownS S' i d := fun {i d} ⟨s, e, o⟩ => by
    rw [backS_get hl] at e
    by_cases hi : i ∈ vs
    · rw [if_pos hi] at e
      exact absurd ⟨s, e, o⟩ (noOwn_at h hi)
    · rw [if_neg hi] at e
      exact ⟨hi, s, e, o⟩
  have out : ∀ {i}, i ∉ vs → (wipe σ vs)[i]? = σ[i]? := fun {i} hi => by rw [wipe_get, if_neg hi]
  refine ⟨m.sub, m.frm, by rw [backS_length, hl, m0.len], fun i d e => ?_, fun i d o => ?_, fun i j d e a o1 o2 h1 h2 => ?_⟩
  · rw [backS_get hl] at e
    by_cases hi : i ∈ vs
    · rw [if_pos hi] at e
      obtain ⟨v, h1, h2⟩ := m0.shr i d e
      exact ⟨v, h1, h2.mono s⟩
    · rw [if_neg hi] at e
      obtain ⟨v, h1, h2⟩ := m.shr i d e
      rw [out hi] at h1
      exact ⟨v, h1, h2⟩
  · obtain ⟨hi, o'⟩ := up o
    obtain ⟨a, h1, h2, h3, h4, h5⟩ := m.own i d o'
    rw [out hi] at h1
    refine ⟨a, h1, h2, h3, h4, fun q => h5 ?_⟩
    rw [backS_get hl, if_neg hi] at q
    exact q
  · obtain ⟨hi, o1'⟩ := up o1
    obtain ⟨hj, o2'⟩ := up o2
    rw [← out hi] at h1
    rw [← out hj] at h2
    exact m.dis i j d e a o1' o2' h1 h2
theorem Sm.unlock : ∀ {lks : Lks} {S : Sts}, Sm P F I H σ S → Sm P F I H σ (unlockS S lks)
  | [], S, m => m
  | (i, d, b) :: r, S, m => by
    unfold unlockS
    refine Sm.unlock (lks := r) ?_
    cases b with
    | false => exact m
    | true =>
      simp only [if_true]
      split
      · rename_i ds hs
        refine m.relabel (lk_own hs) (.ow _) fun a _ oz _ => ?_
        cases oz with | of h => exact h
      · exact m
theorem unlock_own {x : Addr} : ∀ {lks : Lks} {S : Sts}, OwnAt σ (unlockS S lks) x → OwnAt σ S x
  | [], S, h => h
  | (i, d, b) :: r, S, h => by
    unfold unlockS at h
    have h' := unlock_own (lks := r) h
    cases b with
    | false => exact h'
    | true =>
      simp only [if_true] at h'
      split at h'
      · rename_i ds hs
        obtain ⟨j, e, o, q⟩ := h'
        rcases ownS_set o with ⟨rfl, o2⟩ | ⟨_, o2⟩
        · exact ⟨i, _, lk_own hs, q⟩
        · exact ⟨j, e, o2, q⟩
      · exact h'
/-- what nobody may touch is changed by its holder -/
theorem Sm.poke {D : Addr} {o : HO} (m : Sm P F I H σ S) (f : F D) (ho : nt o = true) : Sm P F I (upd H D o) σ S := by
  obtain ⟨n, u, e, _⟩ := m.frm D f
  refine ⟨fun a w q => ?_, fun a fa => ?_, m.len, m.shr, fun i d q => ?_, m.dis⟩
  · have ha : a ≠ D := fun z => by rw [z, n] at q; cases q
    rw [upd_ne ha]
    exact m.sub a w q
  · by_cases ha : a = D
    · subst ha
      exact ⟨n, o, upd_same, ho⟩
    · rw [upd_ne ha]
      exact m.frm a fa
  · obtain ⟨a, e, n1, f1, oz, oc⟩ := m.own i d q
    have ha : a ≠ D := fun z => f1 (z ▸ f)
    exact ⟨a, e, n1, f1, oz.mono (Same.refl _) (upd_ne ha), fun z => (oc z).mono (Same.refl _) (upd_ne ha)⟩
end

/-! ### targets -/
def GSd (P : Kx) (t : Tg) (g : TG) : Prop := ∀ (pr : List Nat) (F : Addr → Prop) (I H : Hp) (σ : L2.St) (S S' : Sts) (v : V) (fr : Bool) (d : D) (Q : L2.St → Hp → Prop), Sm P F I H σ S → Tv P F I H σ S v (fr, d) → storeT pr S t fr d = some S' →
  (∀ σ', (∀ j, j ∉ t.slots → σ'[j]? = σ[j]?) → σ'.length = σ.length → (∀ j ∈ pr, σ'[j]? = σ[j]?) → Sm P F I H σ' S' → Q σ' H) → g v σ H Q
/-- a name that may be stored to, at the slot i -/
structure NmS (X : Cx) (i : Nat) (x : Str) : Prop where
  nd : X.N.Nodup
  ix : X.N[i]? = some x
  loc : Loc X.env.scope x
  fn : X.fn x = true ∨ X.env.scope.names.lookup x = some .local
def nmTs : List Nat → TGs
  | [] => gNil
  | i :: is => gCons (gName i) (nmTs is)
inductive NmAll (X : Cx) : List Nat → List Expr → Prop where
  | nil : NmAll X [] []
  | cons {i : Nat} {x : Str} {p : Pos} {is : List Nat} {es : List Expr} : NmS X i x → NmAll X is es → NmAll X (i :: is) (.Name x p :: es)
section
variable {P : Kx} {X : Cx}
theorem putS_some {pr : List Nat} {S S' : Sts} {i : Nat} {s : Sl} (h : putS pr S i s = some S') : S' = S.set i s ∧ i ∉ pr ∧ i < S.length := by
  unfold putS at h
  split at h
  · rename_i hc
    simp only [Bool.and_eq_true, Bool.not_eq_true', canSt] at hc
    cases h
    refine ⟨rfl, by simpa using hc.2, ?_⟩
    have h1 := hc.1
    split at h1
    · rename_i hs
      exact (List.getElem?_eq_some_iff.mp hs).1
    · cases h1
  · cases h
theorem gs_one {i : Nat} : GSd P (.one i) (gName i) := by
  intro pr F I H σ S S' v fr d Q m tv hs k
  simp only [storeT] at hs
  obtain ⟨rfl, hp, hl⟩ := putS_some hs
  refine k _ (fun j hj => ?_) (by rw [List.length_set]) (fun j hj => ?_) ?_
  · simp only [Tg.slots, List.mem_singleton] at hj
    rw [List.getElem?_set_ne (fun e => hj e.symm)]
  · rw [List.getElem?_set_ne (fun e => hp (by rw [e]; exact hj))]
  · unfold Tv at tv
    cases fr with
    | true =>
      rw [if_pos rfl] at tv
      obtain ⟨a, rfl, n, f, o, oc⟩ := tv
      exact m.storeOw n f o oc
    | false =>
      rw [if_neg Bool.false_ne_true] at tv
      exact m.storeSh tv
theorem gs_many_go {pr : List Nat} {F : Addr → Prop} {I H : Hp} {Q : L2.St → Hp → Prop} : ∀ {is : List Nat} {xs : List V} {ds : List D} {σ : L2.St} {S S' : Sts}, Sm P F I H σ S → RpAll P I xs ds → putsS pr S is ds = some S' →
    (∀ σ', (∀ j, j ∉ is → σ'[j]? = σ[j]?) → σ'.length = σ.length → (∀ j ∈ pr, σ'[j]? = σ[j]?) → Sm P F I H σ' S' → Q σ' H) → nmTs is xs σ H Q
  | [], xs, ds, σ, S, S', m, r, h, k => by
    cases r with
    | nil =>
      simp only [putsS, Option.some.injEq] at h
      subst h
      exact ⟨rfl, k σ (fun _ _ => rfl) rfl (fun _ _ => rfl) m⟩
    | cons a b => simp [putsS] at h
  | i :: is, xs, ds, σ, S, S', m, r, h, k => by
    cases r with
    | nil => simp [putsS] at h
    | cons a b =>
      simp only [putsS, Option.bind_eq_some_iff] at h
      obtain ⟨S1, h1, h2⟩ := h
      obtain ⟨rfl, hp, hl⟩ := putS_some h1
      refine ⟨_, _, rfl, gs_many_go (m.storeSh a) b h2 fun σ' q1 q2 q3 m' => k σ' (fun j hj => ?_) (by rw [q2, List.length_set]) (fun j hj => ?_) m'⟩
      · simp only [List.mem_cons, not_or] at hj
        rw [q1 j hj.2, List.getElem?_set_ne (fun e => hj.1 e.symm)]
      · rw [q3 j hj, List.getElem?_set_ne (fun e => hp (by rw [e]; exact hj))]
theorem gs_len {pr : List Nat} : ∀ {is : List Nat} {ds : List D} {S S' : Sts}, putsS pr S is ds = some S' → ds.length = is.length
  | [], [], S, S', h => rfl
  | [], _ :: _, S, S', h => by simp [putsS] at h
  | _ :: _, [], S, S', h => by simp [putsS] at h
  | i :: is, d :: ds, S, S', h => by
    simp only [putsS, Option.bind_eq_some_iff] at h
    obtain ⟨S1, h1, h2⟩ := h
    rw [List.length_cons, List.length_cons, gs_len h2]
theorem gs_many {is : List Nat} : GSd P (.many is) (gTup P.K is.length (nmTs is)) := by
  intro pr F I H σ S S' v fr d Q m tv hs k
  simp only [storeT] at hs
  split at hs
  · rename_i ds
    obtain ⟨a, xs, rfl, _, h1, z, r⟩ := tv.to.tup m.sub
    exact ⟨a, xs, rfl, .of h1, by rw [r.length, gs_len hs], gs_many_go m r hs k⟩
  · cases hs
theorem pgs_names : ∀ {is : List Nat} {es : List Expr}, NmAll X is es → PGs X es (nmTs is)
  | _, _, .nil => pgs_nil
  | _, _, .cons n r => pgs_cons (pg_name n.nd n.ix n.loc n.fn) (pgs_names r)
theorem asg_len : ∀ {is : List Nat} {es : List Expr}, NmAll X is es → (assignEach es X.env).length = is.length ∧ (assignEach es X.env).findIdx? (·.1) = none
  | _, _, .nil => ⟨rfl, rfl⟩
  | _, _, .cons (x := x) (p := p) (es := es) n r => by
    obtain ⟨h1, h2⟩ := asg_len r
    have e : assignEach (.Name x p :: es) X.env = (false, assign (.Name x p) X.env) :: assignEach es X.env := rfl
    rw [e]
    refine ⟨by rw [List.length_cons, List.length_cons, h1], ?_⟩
    rw [List.findIdx?_cons, h2]
    rfl
theorem pg_names {is : List Nat} {es : List Expr} {k : Nat} {pos : Pos} (hK : X.K = P.K) (hc : X.calm = true) (h : NmAll X is es) : PG X (.Tuple es k pos) (gTup P.K is.length (nmTs is)) := by
  obtain ⟨h1, h2⟩ := asg_len h
  rw [← hK]
  exact pg_tup hc (pgs_names h) h1 h2
end
end Ev

set_option Elab.async false
set_option linter.all false
set_option maxRecDepth 100000
set_option maxHeartbeats 4000000
set_option autoImplicit false
/-! Ev12: list comprehensions. -/
namespace Ev
open PySem PySem.Spec PyProof.Rows L2

def tC (P : Kx) (G : Gl) (W : WX) (cs : CEs) : TT := fun σ H Q => ∃ F I S, Sm P F I H σ S ∧ Po P F I H σ W (evC G cs S) fun b S' I' H' => Q b H'
section
variable {P : Kx} {G : Gl} {W : WX} {X : Cx}
theorem c_nil : PTs X [] (tC P G W .nil) := by
  refine ⟨fun pins s σ H Q I ⟨F, I0, S, m, h⟩ => pts_nil.run pins s σ H Q I ?_⟩
  simp only [evC] at h
  exact h.ok m
theorem c_one {c : CE} {e : Expr} (h : PT X e (tT P G W c)) : PTs X [e] (tC P G W (.cons c .nil)) := by
  refine ⟨fun pins s σ H Q I ⟨F, I0, S, m, hh⟩ => (pts_one h).run pins s σ H Q I ⟨F, I0, S, m, ?_⟩⟩
  simp only [evC] at hh
  exact hh
/-- a step that raises nothing, elsewhere -/
theorem Po.bindn {F : Addr → Prop} {I H : Hp} {σ σ' : L2.St} {W W' : WX} {α β : Type} {r : Rs α} {f : α → Sts → Rs β} {k : β → Sts → Hp → Hp → Prop} (h : Po P F I H σ W (r.nox.bind f) k) : Po P F I H σ' W' r fun a S1 I1 H1 => Po P F I1 H1 σ W (f a S1) k := by
  cases r with
  | ok a S' => exact fun I' H' e m => Po.shift e h
  | ex c S' => exact h.elim
  | bad => exact h
theorem ow_no {S : Sts} {vs : List Nat} {j : Nat} {d : D} (hj : j ∈ vs) (h : (wipeS S vs)[j]? = some (.lk d)) : False := by
  rw [wipeS_get, if_pos hj] at h
  cases hs : S[j]? with
  | none => rw [hs] at h; cases h
  | some s => rw [hs] at h; cases h
theorem comp_go {t : Tg} {it : CI} {cs : CEs} {e : CE} {g : TG} (gs : GSd P t g) {σ : L2.St} {H : Hp} {Q : VK} (h : tE P G W (.comp t it cs e) σ H Q) : tLc (tI P G W it) g (tC P G W0 cs) (tE P G W0 e) t.slots σ H Q := by
  obtain ⟨F, I, S, m, h⟩ := h
  refine ⟨F, I, S, m, ?_⟩
  simp only [ev] at h
  refine h.bind.mono fun x S1 I1 H1 x1 m1 h1 J Fx hF mx hit dl hD => ?_
  split at h1
  case isFalse => exact h1.elim
  rename_i hz
  obtain ⟨hz, hno⟩ := hz
  obtain ⟨m2, x2, nI, nF, nO⟩ := mx.new (o := .lst []) hD
  have m3 : Sm P (fun a => Fx a ∨ a = dl) I1 (upd H1 dl (.lst [])) σ S1 := m2.more fun a ha => ha.elim .inl fun q => .inr (by subst q; exact ⟨nI, ⟨_, upd_same, rfl⟩, nO⟩)
  -- what is still to do, behind i turns
  refine ⟨fun i n Hk => ∃ (Ik : Hp) (Sk : Sts) (acc : List V) (ad rest : List D), x.1.drop i = rest ∧ n = rest.length ∧ i ≤ x.1.length ∧ Ext Fx I1 H1 Ik Hk ∧ Sm P (fun a => Fx a ∨ a = dl) Ik Hk (wipe σ t.slots) Sk ∧ (∀ j ∈ t.slots, ∀ d, Sk[j]? ≠ some (.lk d)) ∧
    Hk dl = some (.lst acc) ∧ acc.length + rest.length ≤ szl ∧ RpAll P Ik acc ad ∧
    Po P F Ik Hk σ W ((evLC x.2 t (evC G cs) (ev G e) rest Sk).bind fun ds S2 => .ok (true, .list (ad ++ ds)) (unlockS (backS S1 S2 t.slots) x.2)) fun r S' I' H' => ∀ v, Tv P F I' H' σ S' v r → Q v H', ?_, ?_⟩
  · refine ⟨x.1.length, I1, wipeS S1 t.slots, [], [], x.1, rfl, rfl, Nat.zero_le _, x2, m3.wiped _, fun j hj d q => ow_no hj q, upd_same, by simpa using hz, .nil, ?_⟩
    exact Po.shift (x2.weak hF) h1
  · rintro i n Hk ⟨Ik, Sk, acc, ad, rest, hr, hn, hil, xk, mk, hnl, hDk, hlen, ra, hk⟩
    cases rest with
    | nil =>
      have hi : i = x.1.length := by
        have : (x.1.drop i).length = 0 := by rw [hr]; rfl
        rw [List.length_drop] at this
        omega
      simp only [evLC] at hk
      by_cases hlk : lkOk Sk x.2 = true
      case neg => rw [if_neg hlk] at hk; exact hk.elim
      rw [if_pos hlk] at hk
      have agree : ∀ l ∈ x.2, (wipe σ t.slots)[l.1]? = σ[l.1]? := fun l hl => by
        rw [wipe_get]
        split
        · rename_i hj
          exact absurd (lkOk_mem (d := l.2.1) (b := l.2.2) hlk hl) (hnl _ hj _)
        · rfl
      refine .inl ⟨(hit i Ik Hk (wipe σ t.slots) Sk _ xk mk hlk agree).1 hi, ?_⟩
      change Po P F Ik Hk σ W (Rs.ok (true, PyData.list (ad ++ [])) (unlockS (backS S1 Sk t.slots) x.2)) _ at hk
      rw [List.append_nil] at hk
      have mb : Sm P (fun a => Fx a ∨ a = dl) Ik Hk σ (unlockS (backS S1 Sk t.slots) x.2) := (mk.back m1 xk.same hno).unlock
      refine hk Ik Hk .refl (mb.weak fun z q => .inl (hF z q)) _ ?_
      unfold Tv
      rw [if_pos rfl]
      obtain ⟨nD, _⟩ := mk.frm dl (.inr rfl)
      refine ⟨dl, rfl, nD, fun q => nF (hF _ q), fun q => ?_, .lst hDk (by simpa using hlen) ra⟩
      obtain ⟨_, q2, _⟩ := mb.ownAt q
      exact q2 (.inr rfl)
    | cons d rest =>
      have hd : x.1[i]? = some d := by
        have : (x.1.drop i)[0]? = some d := by rw [hr]; rfl
        rw [List.getElem?_drop] at this
        simpa using this
      have hlt : i < x.1.length := (List.getElem?_eq_some_iff.mp hd).1
      simp only [evLC] at hk
      by_cases hlk : lkOk Sk x.2 = true
      case neg => rw [if_neg hlk] at hk; exact hk.elim
      rw [if_pos hlk] at hk
      have agree : ∀ l ∈ x.2, (wipe σ t.slots)[l.1]? = σ[l.1]? := fun l hl => by
        rw [wipe_get]
        split
        · rename_i hj
          exact absurd (lkOk_mem (d := l.2.1) (b := l.2.2) hlk hl) (hnl _ hj _)
        · rfl
      obtain ⟨hgo, hyl⟩ := (hit i Ik Hk (wipe σ t.slots) Sk _ xk mk hlk agree).2 d hd
      have hr2 : x.1.drop (i + 1) = rest := by
        have : (x.1.drop i).drop 1 = rest := by rw [hr]; rfl
        rw [List.drop_drop] at this
        exact this
      refine .inr ⟨hgo, _, fun H' q => q, fun v H3 hy => ?_⟩
      obtain ⟨I3, x3, m3', r3⟩ := hyl v H3 hy
      split at hk
      · exact hk.elim
      rename_i S2 hst
      refine gs [] _ I3 H3 (wipe σ t.slots) Sk S2 v false d _ m3' (.of r3) hst fun σ2 q1 q2 _ m4 => ?_
      have hw : wipe σ2 t.slots = wipe σ t.slots := by
        rw [← wipe_idem (σ := σ)]
        exact wipe_eq q1 q2
      refine ⟨hw, ?_⟩
      rw [Rs.bind_assoc] at hk
      have hk1 := (Po.shift (x3.weak fun z q => .inl (hF z q)) hk).bindn (σ' := σ2) (W' := W0)
      have sub : ∀ a, F a → Fx a ∨ a = dl := fun a q => .inl (hF a q)
      refine ⟨_, I3, S2, m4, (hk1.frame sub).mono fun b S3 I4 H4 x4 m5 hk2 => ?_⟩
      have hk2 := hk2 (m5.weak sub)
      have hD4 : H4 dl = some (.lst acc) := (x4.keep dl (.inr rfl)).trans ((x3.keep dl (.inr rfl)).trans hDk)
      have hlen' : acc.length + (rest.length + 1) ≤ szl := hlen
      have goX : ∀ {I H' : Hp}, Ext (fun a => Fx a ∨ a = dl) I3 H3 I H' → Ext Fx I1 H1 I H' := fun {I H'} q => xk.trans ((x3.trans q).weak fun a z => .inl z)
      cases b with
      | false =>
        simp only [Bool.false_eq_true, if_false] at hk2 ⊢
        refine ⟨rest.length, by rw [hn]; exact Nat.lt_succ_self _, I4, wipeS S3 t.slots, acc, ad, rest, hr2, rfl, hlt, goX x4, by rw [← hw]; exact m5.wiped _, fun j hj d q => ow_no hj q, hD4, by omega, ra.mono (x3.same.trans x4.same), hk2⟩
      | true =>
        simp only [if_true] at hk2 ⊢
        rw [Rs.bind_assoc] at hk2
        refine ⟨_, I4, S3, m5, ((hk2.bindn (σ' := σ2) (W' := W0)).frame sub).mono fun y S5 I5 H5 x5 m6 hk3 u tv => ?_⟩
        have hk3 := hk3 (m6.weak sub)
        obtain ⟨I6, m7, x6, ru⟩ := tv.keep m6
        have hD5 : H5 dl = some (.lst acc) := (x5.keep dl (.inr rfl)).trans hD4
        refine ⟨acc, hD5, by rw [← szl_eq]; omega, rest.length, by rw [hn]; exact Nat.lt_succ_self _, I6, wipeS S5 t.slots, acc ++ [u], ad ++ [y.2], rest, hr2, rfl, hlt, ?_, ?_, fun j hj d q => ow_no hj q, upd_same, ?_, ?_, ?_⟩
        · have q := goX (x4.trans (x5.trans x6))
          refine ⟨q.same, fun a fa => ?_⟩
          have ha : a ≠ dl := fun z => nF (z ▸ fa)
          rw [upd_ne ha]
          exact q.keep a fa
        · rw [← hw]
          exact (m7.wiped t.slots).poke (.inr rfl) rfl
        · rw [List.length_append, List.length_singleton]
          omega
        · exact (ra.mono (x3.same.trans (x4.same.trans (x5.same.trans x6.same)))).append (.cons ru .nil)
        · rw [Rs.bind_assoc] at hk3
          have e2 : (fun (ys : List D) S4 => (Rs.ok (y.2 :: ys) S4).bind fun ds S2 => Rs.ok (true, PyData.list (ad ++ ds)) (unlockS (backS S1 S2 t.slots) x.2)) = fun ds S2 => Rs.ok (true, PyData.list ((ad ++ [y.2]) ++ ds)) (unlockS (backS S1 S2 t.slots) x.2) := by
            funext ys S4
            show Rs.ok _ _ = _
            rw [List.append_assoc]
            rfl
          rw [e2] at hk3
          refine Po.shift ⟨x6.same, fun a fa => ?_⟩ hk3
          have ha : a ≠ dl := fun z => nF (z ▸ hF a fa)
          rw [upd_ne ha]
theorem e_comp {tg iter elt : Expr} {ifs : List Expr} {scope : Scope} {own : List (Str × Nat)} {pos : Pos} {t : Tg} {it : CI} {cs : CEs} {e : CE} {g : TG} (hc : X.calm = true) (hN : X.N.Nodup) (hi : PI X tg iter (tI P G W it)) (ok : BlkOk X.N X.env.scope scope own) (ho : own.map (·.2) = t.slots)
    (gs : GSd P t g) (hg : ∀ (s : Shared) (H : Hp) (C : Addr) (cl : List (Str × Addr)) (fp : List Addr), PG (X.blk s H scope (compEnvC scope cl C X.env) fp) tg g)
    (ht : ∀ (s : Shared) (H : Hp) (C : Addr) (cl : List (Str × Addr)) (fp : List Addr), PTs (X.blk s H scope (compEnvC scope cl C X.env) fp) ifs (tC P G W0 cs))
    (he : ∀ (s : Shared) (H : Hp) (C : Addr) (cl : List (Str × Addr)) (fp : List Addr), PE (X.blk s H scope (compEnvC scope cl C X.env) fp) elt (tE P G W0 e)) (hs : ∀ x, foldedSetIterable iter X.env x = pure x) :
    PE X (.ListComp elt [⟨tg, iter, ifs, 0⟩] scope pos) (tE P G W (.comp t it cs e)) := by
  refine (pe_lc hc hN hi ok hg ht he hs).weak fun σ H Q h => ?_
  rw [ho]
  exact comp_go gs h
end
end Ev

set_option Elab.async false
set_option linter.all false
set_option maxRecDepth 100000
set_option maxHeartbeats 4000000
set_option autoImplicit false
/-! Ev13: defs that know of no guards around them; their calls. -/
namespace Ev
open PySem PySem.Spec PyProof.Rows L2

/-- a def's promise where no repr is under way -/
structure FnG (P : Program) (w : World) (K : PySem.W.Frag) (mg : Str → Option Value) (base : Heap) (k : Nat) (f : Addr) (fd : FuncData) (ps : List Str) (sp : Sp) : Prop where
  len : ∀ vs H Q E, sp vs H Q E → vs.length = ps.length
  run : ∀ (A : Around) (outer : List Env) (s : Shared) (H : Hp) (args : Args) (us : List Value) (vs : List V) (Q : VK) (E : XK), Room k A → A.guards = some [] → Env0 P w K mg base A outer s H → BindsTo s fd args (ps.zip us) → Vals vs us → sp vs H Q E →
    codeAny (model P w) A (.call (.ref f) args) (CR (L2.CX P w) outer P w H s Q E) s
section
variable {P : Program} {w : World} {K : PySem.W.Frag} {mg : Str → Option Value} {base : Heap}
theorem FnG.mono {j k : Nat} {f : Addr} {fd : FuncData} {ps : List Str} {sp : Sp} (F : FnG P w K mg base j f fd ps sp) (h : j ≤ k) : FnG P w K mg base k f fd ps sp :=
  ⟨F.len, fun A outer s H args us vs Q E hr => F.run A outer s H args us vs Q E (hr.mono h)⟩
theorem fng_of {k : Nat} {f : Addr} {x qual : Str} {st : Stmt} {fd : FuncData} {N ps : List Str} {sp : Sp} (Fn : Fun K x qual st f fd) (S : FnScope N ps (defScope st)) (len : ∀ vs H Q E, sp vs H Q E → vs.length = ps.length)
    (body : ∀ (cd : Value) (A : Around) (outer : List Env) (s : Shared) (H : Hp) (vs : List V) (Q : VK) (E : XK), Room k (A.deeper (envOfC qual (defScope st) s.heap.objs.size f cd)) → A.guards = some [] → sp vs H Q E →
      ∃ t, PSs (cxOf (L2.CX P w) P w K mg base N qual (defScope st) f cd A outer s H E) (defBody st) t ∧ t { nx := fun _ H' => Q .non H', rt := Q } (start N vs) H) : FnG P w K mg base (k + 1) f fd ps sp := by
  obtain ⟨oc, od, kV, doc, pm, an, cd, ct, osl, rfl, lk, hcd⟩ := Fn.ex
  refine ⟨len, fun A outer s H args us vs Q E room hg e0 hb rv hsp => ?_⟩
  have kin : K.In s.heap := e0.mod.kin.keeps fun b o e => (e0.bs b o e).1
  have nolim : s.heap.NoLimit := e0.mod.nolimit.keeps fun b o e => (e0.bs b o e).1
  have kinds : ∀ y ∈ ps.zip us, (defScope st).names.lookup y.1 = some .local ∨ ((defScope st).names.lookup y.1 = some .cell ∧ ((cellsFrom (s.heap.objs.size + 1) (defScope st).names []).lookup y.1).isSome = true) := by
    rintro ⟨n, v⟩ hy
    rcases S.par n (List.of_mem_zip hy).1 with q | q
    · exact .inl q
    · exact .inr ⟨q, PySem.W.cellsFrom_some _ _ _ (.inl q)⟩
  refine codeAny_call_function room.depth (kin _ _ lk) rfl S.co S.gen rfl (PySem.W.codeRec_of kin hcd) (hb _ _ _ _ ?_)
  refine wpAny_newFunctionEnv_cells S.kind kinds fun env henv s1 inc => ?_
  subst henv
  refine ⟨nolim.keeps inc.toInCall.keep, codeAny_func ?_⟩
  obtain ⟨t, hps, ht⟩ := body cd A outer s H vs Q E (room.deeper _) hg hsp
  refine wpAny_mono (hps.run [] s1 (start N vs) H _ (inv_start S room.hd e0 (len _ _ _ _ hsp) rv inc) ht) ?_ fun e s' q => q
  intro flow s' q
  cases flow with
  | next =>
    obtain ⟨σ', H', J, q⟩ := q
    exact ⟨.non, H', J.os, J.bare, J.base, J.hok, rfl, q⟩
  | ret u =>
    obtain ⟨v, σ', H', J, r, q⟩ := q
    exact ⟨v, H', J.os, J.bare, J.base, J.hok, r, q⟩
  | brk => obtain ⟨_, _, _, q⟩ := q; exact q.elim
  | cont => obtain ⟨_, _, _, q⟩ := q; exact q.elim
end
section
variable {X : Cx} {k : Nat} {f : Addr} {fd : FuncData} {ps : List Str} {sp : Sp} {E : L2.St → XK} {x : Str} {p pos : Pos} {e : Expr} {es : List Expr} {t : TA}
theorem run_fnG {pins : List (Addr × Obj)} {σ : L2.St} {H : Hp} {s : Shared} {Q : VK} {us : List Value} {vs : List V} (F : FnG X.prog X.w X.K X.mg X.base k f fd ps sp) (hr : Room k X.A) (hg : X.A.guards = some []) (hb : Binds X.K fd ps []) (hx : PassesAt (L2.CX X.prog X.w) X σ (E σ))
    (I : Inv X pins σ H s) (r : Vals vs us) (h : sp vs H Q (E σ)) : wpAny (model X.prog X.w) X.A (call (.ref f) us) (EP X pins σ Q) X.xe s := by
  have bt : BindsTo s fd ⟨us, []⟩ (ps.zip us) := by
    have q := hb s us I.kIn (by rw [List.append_nil, ← r.length]; exact F.len _ _ _ _ h)
    rw [List.append_nil] at q
    exact q
  refine wpAny_call (codeAny_mono (F.run X.A X.stack s H ⟨us, []⟩ us vs Q (E σ) hr hg I.env0 bt r h) ?_)
  rintro (err | flow) s' q
  · exact hx pins H s err s' I q
  · cases flow with
    | ret u => exact I.after q
    | next => exact q.elim
    | brk => exact q.elim
    | cont => exact q.elim
theorem pe_callG (F : FnG X.prog X.w X.K X.mg X.base k f fd ps sp) (hr : Room k X.A) (hA : X.A.guards = some []) (hg : L2.Gl X x) (hm : X.mg x = some (.ref f)) (hk : PySem.W.keepIn X.K (.ref f) = true) (hb : Binds X.K fd ps []) (hx : ∀ σ, PassesAt (L2.CX X.prog X.w) X σ (E σ))
    (ha : PA X (e :: es) t) (hdb : (x == ("__debug__" : Str)) = false) (hn : noStar e = true) (hns : es.all noStar = true) : PE X (.Call (.Name x p) (e :: es) [] pos) (tCallS sp E t) :=
  ⟨fun pins s σ H Q I h => wpAny_Call_Name_kw (ld_glob I hg hm (PySem.W.callWith_K (h₀ := X.base) I.ok.mod.kin hk (thn (ha.run pos pins s σ H _ I h) fun _ _ ⟨_, _, I1, r, q⟩ => ⟨I1.kIn, run_fnG F hr hA hb (hx σ) I1 r q⟩) (star_of hn es _) (star_all hns pos _)) hdb)⟩
theorem pe_callG0 (F : FnG X.prog X.w X.K X.mg X.base k f fd ps sp) (hr : Room k X.A) (hA : X.A.guards = some []) (hg : L2.Gl X x) (hm : X.mg x = some (.ref f)) (hk : PySem.W.keepIn X.K (.ref f) = true) (hb : Binds X.K fd ps []) (hx : ∀ σ, PassesAt (L2.CX X.prog X.w) X σ (E σ))
    (hdb : (x == ("__debug__" : Str)) = false) : PE X (.Call (.Name x p) [] [] pos) (tCallS sp E tNil) :=
  ⟨fun pins s σ H Q I h => wpAny_Call_Name_kw (ld_glob I hg hm (PySem.W.callWith_K0 I.kIn hk (run_fnG (us := []) F hr hA hb (hx σ) I .nil h)) hdb)⟩
end
end Ev

set_option Elab.async false
set_option linter.all false
set_option maxRecDepth 100000
set_option maxHeartbeats 4000000
set_option autoImplicit false
/-! Ev14: what a def keeps; its calls. -/
namespace Ev
open PySem PySem.Spec PyProof.Rows L2

def endS : List Bool → List D → Sts
  | true :: io, d :: outs => .ow d :: endS io outs
  | false :: io, outs => .no :: endS io outs
  | _, _ => []
/-- a def does what the evaluator says -/
def spF (P : Kx) (fe : FE) : Sp := fun vs H Q E => ∃ (F : Addr → Prop) (I : Hp) (ds : List D), vs.length = fe.io.length ∧ ds.length = fe.io.length ∧ Sm P F I H (vs.map some) (startS fe.io ds) ∧
  match fe.den ds with
  | .ret d outs => ∀ I' H' v, Ext F I H I' H' → Sm P F I' H' (vs.map some) (endS fe.io outs) → Tv P F I' H' (vs.map some) (endS fe.io outs) v (fe.fr, d) → Q v H'
  | .exc c => ∀ I' H', Ext F I H I' H' → Sm P F I' H' [] [] → E (.ref (P.cl c)) none H'
  | .bad => False

/-- arguments and their values -/
inductive ArgV (P : Kx) (F : Addr → Prop) (I H : Hp) (σ : L2.St) (S : Sts) : List Bool → List AD → List V → Prop where
  | nil : ArgV P F I H σ S [] [] []
  | sh {v : V} {d : D} {io : List Bool} {ads : List AD} {vs : List V} : Rp P I v d → ArgV P F I H σ S io ads vs → ArgV P F I H σ S (false :: io) (.sh d :: ads) (v :: vs)
  | sl {v : V} {i : Nat} {io : List Bool} {ads : List AD} {vs : List V} : σ[i]? = some (some v) → ArgV P F I H σ S io ads vs → ArgV P F I H σ S (true :: io) (.sl i :: ads) (v :: vs)
  | tm {a : Addr} {d : D} {io : List Bool} {ads : List AD} {vs : List V} : I a = none → ¬ F a → ¬ OwnAt σ S a → Oc P I H a d → (∀ (l : Nat) (d' : D), ads[l]? = some (.tm d') → vs[l]? ≠ some (.ref a)) → ArgV P F I H σ S io ads vs →
      ArgV P F I H σ S (true :: io) (.tm d :: ads) (.ref a :: vs)
section
variable {P : Kx} {F F' : Addr → Prop} {I H I' H' : Hp} {σ : L2.St} {S : Sts} {io : List Bool} {ads : List AD} {vs : List V} {ds : List D}
theorem ArgV.weak (h : ArgV P F' I H σ S io ads vs) (hf : ∀ x, F x → F' x) : ArgV P F I H σ S io ads vs := by
  induction h with
  | nil => exact .nil
  | sh r _ ih => exact .sh r ih
  | sl r _ ih => exact .sl r ih
  | tm n f o oc ds _ ih => exact .tm n (fun z => f (hf _ z)) o oc ds ih
theorem ArgV.tmF : ∀ {io : List Bool} {ads : List AD} {vs : List V}, ArgV P F I H σ S io ads vs → ∀ {l : Nat} {d : D} {a : Addr}, ads[l]? = some (.tm d) → vs[l]? = some (.ref a) → ¬ F a
  | _, _, _, .nil, l, d, a, h1, h2 => by simp at h1
  | _, _, _, .sh _ r, 0, d, a, h1, h2 => by simp at h1
  | _, _, _, .sl _ r, 0, d, a, h1, h2 => by simp at h1
  | _, _, _, .tm n f o oc ds r, 0, d, a, h1, h2 => by
    simp at h2
    subst h2
    exact f
  | _, _, _, .sh _ r, l + 1, d, a, h1, h2 => r.tmF (l := l) (by simpa using h1) (by simpa using h2)
  | _, _, _, .sl _ r, l + 1, d, a, h1, h2 => r.tmF (l := l) (by simpa using h1) (by simpa using h2)
  | _, _, _, .tm _ _ _ _ _ r, l + 1, d, a, h1, h2 => r.tmF (l := l) (by simpa using h1) (by simpa using h2)
theorem ArgV.len : ∀ {io : List Bool} {ads : List AD} {vs : List V}, ArgV P F I H σ S io ads vs → vs.length = io.length ∧ ads.length = io.length
  | _, _, _, .nil => ⟨rfl, rfl⟩
  | _, _, _, .sh _ r => by simp [r.len]
  | _, _, _, .sl _ r => by simp [r.len]
  | _, _, _, .tm _ _ _ _ _ r => by simp [r.len]
theorem argsD_len : ∀ {ads : List AD} {ds : List D}, argsD S ads = some ds → ds.length = ads.length
  | [], ds, h => by
    simp only [argsD, Option.some.injEq] at h
    subst h
    rfl
  | a :: r, ds, h => by
    simp only [argsD] at h
    split at h
    · rename_i d es h1 h2
      cases h
      rw [List.length_cons, List.length_cons, argsD_len h2]
    · cases h
/-- an argument at its place -/
inductive ArgAt (P : Kx) (F : Addr → Prop) (I H : Hp) (σ : L2.St) (S : Sts) : Sl → AD → V → Prop where
  | sh {v : V} {d : D} : Rp P I v d → ArgAt P F I H σ S (.sh d) (.sh d) v
  | sl {v : V} {d : D} {i : Nat} : S[i]? = some (.ow d) → σ[i]? = some (some v) → ArgAt P F I H σ S (.ow d) (.sl i) v
  | tm {a : Addr} {d : D} : I a = none → ¬ F a → ¬ OwnAt σ S a → Oc P I H a d → ArgAt P F I H σ S (.ow d) (.tm d) (.ref a)
theorem ArgV.at : ∀ {io : List Bool} {ads : List AD} {vs : List V} {ds : List D}, ArgV P F I H σ S io ads vs → argsD S ads = some ds → ∀ {k : Nat} {s : Sl}, (startS io ds)[k]? = some s → ∃ ad v, ads[k]? = some ad ∧ vs[k]? = some v ∧ ArgAt P F I H σ S s ad v
  | _, _, _, ds, .nil, h, k, s, e => by simp [startS] at e
  | _, _, _, ds, .sh (v := v) (d := d) r a, h, k, s, e => by
    simp only [argsD, argD] at h
    split at h
    · rename_i d' es h1 h2
      cases h1
      cases h
      cases k with
      | zero =>
        simp [startS] at e
        subst e
        exact ⟨_, _, rfl, rfl, .sh r⟩
      | succ k => exact a.at h2 (k := k) (by simpa [startS] using e)
    · cases h
  | _, _, _, ds, .sl (v := v) (i := i) r a, h, k, s, e => by
    simp only [argsD] at h
    split at h
    · rename_i d' es h1 h2
      cases h
      cases k with
      | zero =>
        simp [startS] at e
        subst e
        simp only [argD] at h1
        split at h1
        · rename_i d2 hs
          cases h1
          exact ⟨_, _, rfl, rfl, .sl hs r⟩
        · cases h1
      | succ k => exact a.at h2 (k := k) (by simpa [startS] using e)
    · cases h
  | _, _, _, ds, .tm n f o oc q a, h, k, s, e => by
    simp only [argsD, argD] at h
    split at h
    · rename_i d' es h1 h2
      cases h1
      cases h
      cases k with
      | zero =>
        simp [startS] at e
        subst e
        exact ⟨_, _, rfl, rfl, .tm n f o oc⟩
      | succ k => exact a.at h2 (k := k) (by simpa [startS] using e)
    · cases h
theorem ArgV.tmD : ∀ {io : List Bool} {ads : List AD} {vs : List V}, ArgV P F I H σ S io ads vs → ∀ {k l : Nat} {d e : D} {a : Addr}, ads[k]? = some (.tm d) → ads[l]? = some (.tm e) → vs[k]? = some (.ref a) → vs[l]? = some (.ref a) → k = l
  | _, _, _, .nil, k, l, d, e, a, h1, h2, h3, h4 => by simp at h1
  | _, _, _, .sh _ r, k, l, d, e, a, h1, h2, h3, h4 => by
    cases k <;> cases l <;> simp at h1 h2 h3 h4
    rw [r.tmD h1 h2 h3 h4]
  | _, _, _, .sl _ r, k, l, d, e, a, h1, h2, h3, h4 => by
    cases k <;> cases l <;> simp at h1 h2 h3 h4
    rw [r.tmD h1 h2 h3 h4]
  | _, _, _, .tm n f o oc q r, k, l, d, e, a, h1, h2, h3, h4 => by
    cases k <;> cases l <;> simp at h1 h2 h3 h4
    · rfl
    · subst h3; exact absurd h4 (q _ _ h2)
    · subst h4; exact absurd h3 (q _ _ h1)
    · rw [r.tmD h1 h2 h3 h4]
theorem slots_mem : ∀ {ads : List AD} {i : Nat}, i ∈ AD.slots ads ↔ ∃ k : Nat, ads[k]? = some (.sl i)
  | [], i => by simp [AD.slots]
  | .sh d :: r, i => by
    rw [AD.slots, slots_mem]
    exact ⟨fun ⟨k, h⟩ => ⟨k + 1, by simpa using h⟩, fun ⟨k, h⟩ => by
      cases k with
      | zero => simp at h
      | succ k => exact ⟨k, by simpa using h⟩⟩
  | .tm d :: r, i => by
    rw [AD.slots, slots_mem]
    exact ⟨fun ⟨k, h⟩ => ⟨k + 1, by simpa using h⟩, fun ⟨k, h⟩ => by
      cases k with
      | zero => simp at h
      | succ k => exact ⟨k, by simpa using h⟩⟩
  | .sl j :: r, i => by
    rw [AD.slots, List.mem_cons, slots_mem]
    refine ⟨fun h => ?_, fun ⟨k, h⟩ => ?_⟩
    · rcases h with rfl | ⟨k, h⟩
      · exact ⟨0, rfl⟩
      · exact ⟨k + 1, by simpa using h⟩
    · cases k with
      | zero => simp at h; exact .inl h.symm
      | succ k => exact .inr ⟨k, by simpa using h⟩
theorem slots_nd : ∀ {ads : List AD}, nodupB (AD.slots ads) = true → ∀ {k l i : Nat}, ads[k]? = some (.sl i) → ads[l]? = some (.sl i) → k = l
  | [], _, k, l, i, h1, _ => by simp at h1
  | .sh d :: r, h, k, l, i, h1, h2 => by
    cases k <;> cases l <;> simp at h1 h2
    rw [slots_nd (by simpa [AD.slots] using h) h1 h2]
  | .tm d :: r, h, k, l, i, h1, h2 => by
    cases k <;> cases l <;> simp at h1 h2
    rw [slots_nd (by simpa [AD.slots] using h) h1 h2]
  | .sl j :: r, h, k, l, i, h1, h2 => by
    simp only [AD.slots, nodupB, Bool.and_eq_true, Bool.not_eq_true', List.contains_eq_mem, decide_eq_false_iff_not] at h
    cases k <;> cases l <;> simp at h1 h2
    · rfl
    · subst h1; exact absurd (slots_mem.mpr ⟨_, h2⟩) h.1
    · subst h2; exact absurd (slots_mem.mpr ⟨_, h1⟩) h.1
    · rw [slots_nd h.2 h1 h2]
/-- what is not to be touched by a callee: what it was not before, and the slots that are not handed over -/
def calF (F : Addr → Prop) (σ : L2.St) (S : Sts) (ads : List AD) : Addr → Prop := fun x => F x ∨ ∃ i d, ownS S i d ∧ i ∉ AD.slots ads ∧ σ[i]? = some (some (.ref x))
theorem map_some_get {i : Nat} {v : V} (h : vs[i]? = some v) : (vs.map some)[i]? = some (some v) := by rw [List.getElem?_map, h]; rfl
theorem map_get_some {i : Nat} {x : Option V} (h : (vs.map some)[i]? = some x) : ∃ v, x = some v ∧ vs[i]? = some v := by
  rw [List.getElem?_map] at h
  cases q : vs[i]? with
  | none => rw [q] at h; cases h
  | some v => rw [q] at h; cases h; exact ⟨v, rfl, rfl⟩
theorem startS_len : ∀ {io : List Bool} {ds : List D}, ds.length = io.length → (startS io ds).length = io.length
  | [], _, _ => by simp [startS]
  | true :: io, d :: ds, h => by simp [startS, startS_len (io := io) (ds := ds) (by simpa using h)]
  | false :: io, d :: ds, h => by simp [startS, startS_len (io := io) (ds := ds) (by simpa using h)]
  | true :: io, [], h => by simp at h
  | false :: io, [], h => by simp at h
theorem call_sm (m : Sm P F I H σ S) (av : ArgV P F I H σ S io ads vs) (hd : argsD S ads = some ds) (nd : nodupB (AD.slots ads) = true) : Sm P (calF F σ S ads) I H (vs.map some) (startS io ds) := by
  have hl := av.len
  have hdl := argsD_len hd
  have own : ∀ {k d}, ownS (startS io ds) k d → ∃ ad v, ads[k]? = some ad ∧ vs[k]? = some v ∧ ArgAt P F I H σ S (.ow d) ad v ∧ (startS io ds)[k]? = some (.ow d) := fun {k d} ⟨s, e, o⟩ => by
    obtain ⟨ad, v, h1, h2, h3⟩ := av.at hd e
    cases o with
    | ow => exact ⟨ad, v, h1, h2, h3, e⟩
    | lk => cases h3
  refine ⟨m.sub, fun a fa => ?_, by rw [startS_len (by rw [hdl, hl.2]), List.length_map, hl.1], fun k d e => ?_, fun k d o => ?_, fun k l d e a o1 o2 h1 h2 => ?_⟩
  · rcases fa with fa | ⟨i, d, o, _, hs⟩
    · exact m.frm a fa
    · obtain ⟨n, _, o⟩ := m.ownAt ⟨i, d, o, hs⟩
      exact ⟨n, o⟩
  · obtain ⟨ad, v, h1, h2, h3⟩ := av.at hd e
    cases h3 with
    | sh r => exact ⟨v, map_some_get h2, r⟩
  · obtain ⟨ad, v, h1, h2, h3, e⟩ := own o
    cases h3 with
    | @sl _ _ i hs hσ =>
      obtain ⟨a, q1, q2, q3, q4, q5⟩ := m.own i d (ow_own hs)
      rw [hσ] at q1
      cases q1
      refine ⟨a, map_some_get h2, q2, fun z => ?_, q4, fun _ => q5 hs⟩
      rcases z with z | ⟨j, e', o', hj, hs'⟩
      · exact q3 z
      · have := m.dis i j d e' a (ow_own hs) o' hσ hs'
        subst this
        exact hj (slots_mem.mpr ⟨k, h1⟩)
    | @tm a _ n f oo oc =>
      refine ⟨a, map_some_get h2, n, fun z => ?_, .of oc, fun _ => oc⟩
      rcases z with z | ⟨j, e', o', _, hs'⟩
      · exact f z
      · exact oo ⟨j, e', o', hs'⟩
  · obtain ⟨ad, v, a1, v1, t1, _⟩ := own o1
    obtain ⟨bd, w, a2, v2, t2, _⟩ := own o2
    obtain ⟨v', e1, e2⟩ := map_get_some h1
    obtain ⟨w', e3, e4⟩ := map_get_some h2
    cases e1
    cases e3
    rw [v1] at e2
    rw [v2] at e4
    cases e2
    cases e4
    cases t1 with
    | @sl _ _ i hs hσ => cases t2 with
      | @sl _ _ j hs2 hσ2 =>
        have := m.dis i j d e a (ow_own hs) (ow_own hs2) hσ hσ2
        subst this
        exact slots_nd nd a1 a2
      | tm n f oo oc => exact absurd ⟨i, d, ow_own hs, hσ⟩ oo
    | tm n f oo oc => cases t2 with
      | @sl _ _ j hs2 hσ2 => exact absurd ⟨j, e, ow_own hs2, hσ2⟩ oo
      | tm n2 f2 oo2 oc2 => exact av.tmD a1 a2 v1 v2
theorem outsS_len : ∀ {ads : List AD} {S : Sts} {outs : List D}, (outsS S ads outs).length = S.length
  | [], S, _ => rfl
  | .sh _ :: r, S, os => by rw [outsS]; exact outsS_len
  | .tm _ :: r, S, [] => by simp [outsS]
  | .tm _ :: r, S, _ :: os => by rw [outsS]; exact outsS_len
  | .sl i :: r, S, [] => by simp [outsS]
  | .sl i :: r, S, d :: os => by rw [outsS, outsS_len, List.length_set]
theorem outs_out {i : Nat} : ∀ {ads : List AD} {S : Sts} {outs : List D}, i ∉ AD.slots ads → (outsS S ads outs)[i]? = S[i]?
  | [], S, _, _ => rfl
  | .sh _ :: r, S, os, h => by rw [outsS]; exact outs_out (by simpa [AD.slots] using h)
  | .tm _ :: r, S, [], h => by simp [outsS]
  | .tm _ :: r, S, _ :: os, h => by rw [outsS]; exact outs_out (by simpa [AD.slots] using h)
  | .sl j :: r, S, [], h => by simp [outsS]
  | .sl j :: r, S, d :: os, h => by
    simp only [AD.slots, List.mem_cons, not_or] at h
    rw [outsS, outs_out h.2, List.getElem?_set_ne (fun e => h.1 e.symm)]
theorem outs_in : ∀ {io : List Bool} {ads : List AD} {vs : List V} {S0 S : Sts} {outs : List D}, ArgV P F I H σ S0 io ads vs → nodupB (AD.slots ads) = true → (endS io outs).length = io.length → ∀ {k i : Nat}, ads[k]? = some (.sl i) → i < S.length →
    ∃ d, (endS io outs)[k]? = some (.ow d) ∧ (outsS S ads outs)[i]? = some (.ow d)
  | _, _, _, S0, S, outs, .nil, nd, hl, k, i, h, hi => by simp at h
  | _, _, _, S0, S, outs, .sh _ r, nd, hl, k, i, h, hi => by
    cases k with
    | zero => simp at h
    | succ k =>
      obtain ⟨d, h1, h2⟩ := outs_in (S := S) (outs := outs) r (by simpa [AD.slots] using nd) (by simpa [endS] using hl) (k := k) (i := i) (by simpa using h) hi
      exact ⟨d, by simpa [endS] using h1, by rw [outsS]; exact h2⟩
  | _, _, _, S0, S, [], .sl _ r, nd, hl, k, i, h, hi => by simp [endS] at hl
  | _, _, _, S0, S, [], .tm _ _ _ _ _ r, nd, hl, k, i, h, hi => by simp [endS] at hl
  | _, _, _, S0, S, d :: outs, .tm _ _ _ _ _ r, nd, hl, k, i, h, hi => by
    cases k with
    | zero => simp at h
    | succ k =>
      obtain ⟨d, h1, h2⟩ := outs_in (S := S) (outs := outs) r (by simpa [AD.slots] using nd) (by simpa [endS] using hl) (k := k) (i := i) (by simpa using h) hi
      exact ⟨d, by simpa [endS] using h1, by rw [outsS]; exact h2⟩
  | _, _, _, S0, S, d :: outs, .sl (i := j) _ r, nd, hl, k, i, h, hi => by
    simp only [AD.slots, nodupB, Bool.and_eq_true, Bool.not_eq_true', List.contains_eq_mem, decide_eq_false_iff_not] at nd
    cases k with
    | zero =>
      simp at h
      subst h
      refine ⟨d, by simp [endS], ?_⟩
      rw [outsS, outs_out nd.1, List.getElem?_set_self hi]
    | succ k =>
      obtain ⟨d, h1, h2⟩ := outs_in (S := S.set j (.ow d)) (outs := outs) r nd.2 (by simpa [endS] using hl) (k := k) (i := i) (by simpa using h) (by simpa using hi)
      exact ⟨d, by simpa [endS] using h1, by rw [outsS]; exact h2⟩
theorem call_ret {I2 H2 : Hp} {outs : List D} {fr : Bool} {d : D} {v : V} (m : Sm P F I H σ S) (av : ArgV P F I H σ S io ads vs) (hd : argsD S ads = some ds) (nd : nodupB (AD.slots ads) = true)
    (x : Ext (calF F σ S ads) I H I2 H2) (m2 : Sm P (calF F σ S ads) I2 H2 (vs.map some) (endS io outs)) (tv : Tv P (calF F σ S ads) I2 H2 (vs.map some) (endS io outs) v (fr, d)) :
    Sm P F I2 H2 σ (outsS S ads outs) ∧ Tv P F I2 H2 σ (outsS S ads outs) v (fr, d) := by
  have hl := av.len
  have el : (endS io outs).length = io.length := by rw [m2.len, List.length_map, hl.1]
  -- a slot that was handed over
  have inn : ∀ {k i : Nat}, ads[k]? = some (.sl i) → ∃ (d : D) (v : V), (endS io outs)[k]? = some (Sl.ow d) ∧ (outsS S ads outs)[i]? = some (Sl.ow d) ∧ vs[k]? = some v ∧ σ[i]? = some (some v) := fun {k i} h => by
    have hs : ∃ e, (startS io ds)[k]? = some e := by
      have : k < (startS io ds).length := by
        rw [startS_len (by rw [argsD_len hd, hl.2])]
        rw [← hl.2]
        exact (List.getElem?_eq_some_iff.mp h).1
      exact ⟨_, List.getElem?_eq_getElem this⟩
    obtain ⟨e, he⟩ := hs
    obtain ⟨ad, v, h1, h2, h3⟩ := av.at hd he
    rw [h] at h1
    cases h1
    cases h3 with
    | sl hs hσ =>
      obtain ⟨d, q1, q2⟩ := outs_in (S := S) (outs := outs) av nd el h ((List.getElem?_eq_some_iff.mp hs).1)
      exact ⟨d, v, q1, q2, h2, hσ⟩
  have own : ∀ {i e}, ownS (outsS S ads outs) i e → (∃ (k : Nat) (v : V), ads[k]? = some (AD.sl i) ∧ (endS io outs)[k]? = some (Sl.ow e) ∧ (outsS S ads outs)[i]? = some (Sl.ow e) ∧ (vs.map some)[k]? = some (some v) ∧ σ[i]? = some (some v)) ∨ (i ∉ AD.slots ads ∧ ownS S i e) := fun {i e} ⟨s, q, o⟩ => by
    by_cases hi : i ∈ AD.slots ads
    · obtain ⟨k, hk⟩ := slots_mem.mp hi
      obtain ⟨d', v, h1, h2, h3, h4⟩ := inn hk
      rw [h2] at q
      cases q
      cases o
      exact .inl ⟨k, v, hk, h1, h2, map_some_get h3, h4⟩
    · rw [outs_out hi] at q
      exact .inr ⟨hi, s, q, o⟩
  refine ⟨⟨m2.sub, fun a fa => m2.frm a (.inl fa), by rw [outsS_len]; exact m.len, fun i e q => ?_, fun i e o => ?_, fun i j d' e a o1 o2 h1 h2 => ?_⟩, ?_⟩
  · by_cases hi : i ∈ AD.slots ads
    · obtain ⟨k, hk⟩ := slots_mem.mp hi
      obtain ⟨d', v, h1, h2, h3, h4⟩ := inn hk
      rw [h2] at q
      cases q
    · rw [outs_out hi] at q
      obtain ⟨v, h1, h2⟩ := m.shr i e q
      exact ⟨v, h1, h2.mono x.same⟩
  · rcases own o with ⟨k, v, hk, h1, h2, h3, h4⟩ | ⟨hi, o'⟩
    · obtain ⟨a, q1, q2, q3, q4, q5⟩ := m2.own k e (ow_own h1)
      rw [h3] at q1
      cases q1
      exact ⟨a, h4, q2, fun z => q3 (.inl z), q4, fun _ => q5 h1⟩
    · obtain ⟨a, q1, q2, q3, q4, q5⟩ := m.own i e o'
      have fa : calF F σ S ads a := .inr ⟨i, e, o', hi, q1⟩
      have ke := x.keep a fa
      exact ⟨a, q1, (m2.frm a fa).1, q3, q4.mono x.same ke, fun q => (q5 (by rw [outs_out hi] at q; exact q)).mono x.same ke⟩
  · rcases own o1 with ⟨k, v, hk, a1, a2, a3, a4⟩ | ⟨hi, o1'⟩
    · rw [a4] at h1
      cases h1
      rcases own o2 with ⟨l, w, hl', b1, b2, b3, b4⟩ | ⟨hj, o2'⟩
      · rw [b4] at h2
        cases h2
        have e' := m2.dis k l d' e a (ow_own a1) (ow_own b1) a3 b3
        subst e'
        rw [hk] at hl'
        cases hl'
        rfl
      · have fa : calF F σ S ads a := .inr ⟨j, e, o2', hj, h2⟩
        obtain ⟨b, q1, _, q3, _⟩ := m2.own k d' (ow_own a1)
        rw [a3] at q1
        cases q1
        exact absurd fa q3
    · rcases own o2 with ⟨l, w, hl', b1, b2, b3, b4⟩ | ⟨hj, o2'⟩
      · rw [b4] at h2
        cases h2
        have fa : calF F σ S ads a := .inr ⟨i, d', o1', hi, h1⟩
        obtain ⟨b, q1, _, q3, _⟩ := m2.own l e (ow_own b1)
        rw [b3] at q1
        cases q1
        exact absurd fa q3
      · exact m.dis i j d' e a o1' o2' h1 h2
  · unfold Tv at tv ⊢
    split
    · rename_i hr
      rw [if_pos hr] at tv
      obtain ⟨a, rfl, n, f, oo, oc⟩ := tv
      refine ⟨a, rfl, n, fun z => f (.inl z), fun ⟨i, e, o, hs⟩ => ?_, oc⟩
      rcases own o with ⟨k, v, hk, a1, a2, a3, a4⟩ | ⟨hi, o'⟩
      · rw [a4] at hs
        cases hs
        exact oo ⟨k, e, ow_own a1, a3⟩
      · exact f (.inr ⟨i, e, o', hi, hs⟩)
    · rename_i hr
      rw [if_neg hr] at tv
      exact tv
theorem call_exc {I2 H2 : Hp} (m : Sm P F I H σ S) (x : Ext (calF F σ S ads) I H I2 H2) (m2 : Sm P (calF F σ S ads) I2 H2 [] []) : Sm P F I2 H2 σ (wipeS S (AD.slots ads)) := by
  have out : ∀ {i : Nat} {s : Sl}, (wipeS S (AD.slots ads))[i]? = some s → s ≠ .no → i ∉ AD.slots ads ∧ S[i]? = some s := fun {i s} q hn => by
    rw [wipeS_get] at q
    by_cases hi : i ∈ AD.slots ads
    · rw [if_pos hi] at q
      cases hs : S[i]? with
      | none => rw [hs] at q; cases q
      | some t => rw [hs] at q; cases q; exact absurd rfl hn
    · rw [if_neg hi] at q
      exact ⟨hi, q⟩
  have own : ∀ {i e}, ownS (wipeS S (AD.slots ads)) i e → i ∉ AD.slots ads ∧ ownS S i e := fun {i e} ⟨s, q, o⟩ => by
    obtain ⟨h1, h2⟩ := out q (fun z => by subst z; cases o)
    exact ⟨h1, s, h2, o⟩
  refine ⟨m2.sub, fun a fa => m2.frm a (.inl fa), by rw [wipeS_length]; exact m.len, fun i e q => ?_, fun i e o => ?_, fun i j d' e a o1 o2 h1 h2 => ?_⟩
  · obtain ⟨_, q⟩ := out q (fun z => by cases z)
    obtain ⟨v, h1, h2⟩ := m.shr i e q
    exact ⟨v, h1, h2.mono x.same⟩
  · obtain ⟨hi, o'⟩ := own o
    obtain ⟨a, q1, q2, q3, q4, q5⟩ := m.own i e o'
    have fa : calF F σ S ads a := .inr ⟨i, e, o', hi, q1⟩
    have ke := x.keep a fa
    exact ⟨a, q1, (m2.frm a fa).1, q3, q4.mono x.same ke, fun q => (q5 (out q (fun z => by cases z)).2).mono x.same ke⟩
  · exact m.dis i j d' e a (own o1).2 (own o2).2 h1 h2

/-! ### the arguments, the call -/
def tAs (P : Kx) (G : Gl) (W : WX) (cs : CEs) (io : List Bool) : TA := fun σ H Q => ∃ F I S, Sm P F I H σ S ∧ Po P F I H σ W (evA G cs io S) fun ads S' I' H' => ∀ vs, ArgV P F I' H' σ S' io ads vs → Q vs H'
section
variable {G : Gl} {W : WX} {X : Cx} {e : Expr} {es : List Expr} {c : CE} {cs : CEs} {pos : Pos}
theorem as_nil : PA X [] (tAs P G W .nil []) := by
  refine pa_nil.weak fun σ H Q ⟨F, I, S, m, h⟩ => ?_
  simp only [evA] at h
  exact h.ok m [] .nil
theorem as_sh (hn : noStar e = true) (ha : PE X e (tE P G W c)) (hr : PA X es (tAs P G W cs io)) : PA X (e :: es) (tAs P G W (.cons c cs) (false :: io)) := by
  refine (pa_cons ha hr (star_of hn es _)).weak fun σ H Q ⟨F, I, S, m, h⟩ => ⟨F, I, S, m, ?_⟩
  simp only [evA] at h
  refine h.bind.mono fun r S1 I1 H1 x1 m1 h1 v tv => ?_
  obtain ⟨I2, m2, x2, rp⟩ := tv.keep m1
  refine ⟨F, I2, S1, m2, (Po.shift x2 h1.bind).mono fun ads S3 I3 H3 x3 m3 h3 vs hv => ?_⟩
  exact h3.ok m3 (v :: vs) (.sh (rp.mono x3.same) hv)
theorem as_sl {i : Nat} {x : Str} {p : Pos} (hN : X.N[i]? = some x) (hv : Vis X.env.scope x) (hd : (x == ("__debug__" : Str)) = false) (hcd : (x == ("__classdict__" : Str)) = false) (hr : PA X es (tAs P G W cs io)) : PA X (.Name x p :: es) (tAs P G W (.cons (.var i) cs) (true :: io)) := by
  refine (pa_cons (pe_var hN hv hd hcd) hr (star_of rfl es _)).weak fun σ H Q ⟨F, I, S, m, h⟩ => ?_
  simp only [evA] at h
  split at h
  · rename_i d hs
    obtain ⟨a, q1, _⟩ := m.own i d (ow_own hs)
    refine ⟨_, q1, F, I, S, m, h.bind.mono fun ads S3 I3 H3 x3 m3 h3 vs hv => ?_⟩
    exact h3.ok m3 (.ref a :: vs) (.sl q1 hv)
  · exact h.elim
theorem as_tm (hc : ∀ i, c ≠ .var i) (hn : noStar e = true) (ha : PE X e (tE P G W c)) (hr : PA X es (tAs P G W cs io)) : PA X (e :: es) (tAs P G W (.cons c cs) (true :: io)) := by
  refine (pa_cons ha hr (star_of hn es _)).weak fun σ H Q ⟨F, I, S, m, h⟩ => ⟨F, I, S, m, ?_⟩
  have h' : Po P F I H σ W ((ev G c S).bind fun d S1 => if d.1 = true then (evA G cs io S1).bind fun ds S2 => .ok (.tm d.2 :: ds) S2 else .bad) fun ads S' I' H' => ∀ vs, ArgV P F I' H' σ S' (true :: io) ads vs → Q vs H' := by
    cases c <;> first | exact (hc _ rfl).elim | (simp only [evA] at h; exact h)
  refine h'.bind.mono fun r S1 I1 H1 x1 m1 h1 v tv => ?_
  split at h1
  · rename_i hr
    unfold Tv at tv
    rw [if_pos hr] at tv
    obtain ⟨a, rfl, n, f, o, oc⟩ := tv
    have mm : Sm P (fun x => F x ∨ x = a) I1 H1 σ S1 := m1.more fun x hx => hx.elim .inl fun q => .inr (by subst q; exact ⟨n, oc.nt, o⟩)
    refine ⟨_, I1, S1, mm, (h1.bind.frame fun z => .inl).mono fun ads S3 I3 H3 x3 m3 h3 vs hv => ?_⟩
    have m3' : Sm P F I3 H3 σ S3 := m3.weak fun z => .inl
    refine (h3 m3').ok m3' (.ref a :: vs) (.tm ?_ f ?_ (oc.mono x3.same (x3.keep a (.inr rfl))) ?_ (hv.weak fun z => .inl))
    · exact (m3.frm a (.inr rfl)).1
    · exact fun z => (m3.ownAt z).2.1 (.inr rfl)
    · exact fun l d' h1 h2 => hv.tmF h1 h2 (.inr rfl)
  · exact h1.elim
theorem call_go {fe : FE} {E : L2.St → XK} {Q : VK} (hE : ∀ c S' I' H', Ext F I H I' H' → Sm P F I' H' σ S' → W (.ref (P.cl c)) none σ H' → E σ (.ref (P.cl c)) none H') (m : Sm P F I H σ S) (av : ArgV P F I H σ S fe.io ads vs)
    (h : Po P F I H σ W (callR fe ads S) fun r S' I' H' => ∀ v, Tv P F I' H' σ S' v r → Q v H') : spF P fe vs H Q (E σ) := by
  unfold callR at h
  split at h
  · rename_i nd
    split at h
    · rename_i ds hd
      have hl := av.len
      refine ⟨calF F σ S ads, I, ds, hl.1, by rw [argsD_len hd, hl.2], call_sm m av hd nd, ?_⟩
      revert h
      cases hden : fe.den ds with
      | ret d outs =>
        intro h I' H' v x m2 tv
        obtain ⟨q1, q2⟩ := call_ret m av hd nd x m2 tv
        exact h I' H' (x.weak fun z => .inl) q1 v q2
      | exc c =>
        intro h I' H' x m2
        have q := call_exc m x m2
        have xw : Ext F I H I' H' := x.weak fun z => .inl
        exact hE c _ I' H' xw q (h I' H' xw q)
      | bad => exact fun h => h.elim
    · exact h.elim
  · exact h.elim
theorem e_call {k : Nat} {f : Addr} {fd : FuncData} {ps : List Str} {fe : FE} {fi : Nat} {x : Str} {p : Pos} (hG : G.fn fi = some fe) (tk : Takes X W) (Fn : FnG X.prog X.w X.K X.mg X.base k f fd ps (spF P fe)) (hr : Room k X.A) (hA : X.A.guards = some []) (hg : L2.Gl X x) (hm : X.mg x = some (.ref f)) (hk : PySem.W.keepIn X.K (.ref f) = true) (hb : Binds X.K fd ps [])
    (ha : PA X (e :: es) (tAs P G W cs fe.io)) (hdb : (x == ("__debug__" : Str)) = false) (hn : noStar e = true) (hns : es.all noStar = true) : PE X (.Call (.Name x p) (e :: es) [] pos) (tE P G W (.call fi cs)) := by
  refine (pe_callG Fn hr hA hg hm hk hb (fun σ => passAt tk σ) ha hdb hn hns).weak fun σ H Q ⟨F, I, S, m, h⟩ => ⟨F, I, S, m, ?_⟩
  simp only [ev, hG] at h
  exact h.bind.mono fun ads S1 I1 H1 x1 m1 h1 vs av => call_go (E := WE W) (fun _ _ _ _ _ _ q => q) m1 av h1
theorem e_call0 {k : Nat} {f : Addr} {fd : FuncData} {ps : List Str} {fe : FE} {fi : Nat} {x : Str} {p : Pos} (hG : G.fn fi = some fe) (h0 : fe.io = []) (tk : Takes X W) (Fn : FnG X.prog X.w X.K X.mg X.base k f fd ps (spF P fe)) (hr : Room k X.A) (hA : X.A.guards = some []) (hg : L2.Gl X x) (hm : X.mg x = some (.ref f)) (hk : PySem.W.keepIn X.K (.ref f) = true) (hb : Binds X.K fd ps [])
    (hdb : (x == ("__debug__" : Str)) = false) : PE X (.Call (.Name x p) [] [] pos) (tE P G W (.call fi .nil)) := by
  refine (pe_callG0 Fn hr hA hg hm hk hb (fun σ => passAt tk σ) hdb).weak fun σ H Q ⟨F, I, S, m, h⟩ => ?_
  simp only [ev, hG, h0, evA] at h
  exact call_go (E := WE W) (fun _ _ _ _ _ _ q => q) m (by rw [h0]; exact .nil) (h.bind.ok m)
end
end
end Ev

set_option Elab.async false
set_option linter.all false
set_option maxRecDepth 100000
set_option maxHeartbeats 4000000
set_option autoImplicit false
/-! Ev15: statements. -/
namespace L2
open PySem PySem.Spec PyProof.Rows
theorem PS.weak {X : Cx} {st : Stmt} {t t' : TS} (h : PS X st t) (q : ∀ D σ H, t' D σ H → t D σ H) : PS X st t' := ⟨fun pins s σ H D I hw => h.run pins s σ H D I (q D σ H hw)⟩
theorem PSs.weak {X : Cx} {st : List Stmt} {t t' : TS} (h : PSs X st t) (q : ∀ D σ H, t' D σ H → t D σ H) : PSs X st t' := ⟨fun pins s σ H D I hw => h.run pins s σ H D I (q D σ H hw)⟩
end L2
namespace Ev
open PySem PySem.Spec PyProof.Rows L2

def Pin (pr : List Nat) (σ σ' : L2.St) : Prop := ∀ j ∈ pr, σ'[j]? = σ[j]?
theorem Pin.refl {pr : List Nat} {σ : L2.St} : Pin pr σ σ := fun _ _ => rfl
theorem Pin.trans {pr : List Nat} {σ σ1 σ2 : L2.St} (a : Pin pr σ σ1) (b : Pin pr σ1 σ2) : Pin pr σ σ2 := fun j h => (b j h).trans (a j h)
/-- behind a statement -/
def PoS (P : Kx) (F : Addr → Prop) (pr : List Nat) (I H : Hp) (σ : L2.St) (W : WX) (r : SR) (nx : Sts → L2.St → Hp → Hp → Prop) (rt : (Bool × D) → Sts → L2.St → Hp → Hp → V → Prop) : Prop := match r with
  | .nx S' => ∀ σ' I' H', Pin pr σ σ' → Ext F I H I' H' → Sm P F I' H' σ' S' → nx S' σ' I' H'
  | .rt d S' => ∀ σ' I' H' v, Pin pr σ σ' → Ext F I H I' H' → Sm P F I' H' σ' S' → Tv P F I' H' σ' S' v d → rt d S' σ' I' H' v
  | .ex c S' => ∀ σ' I' H', Pin pr σ σ' → Ext F I H I' H' → Sm P F I' H' σ' S' → W (.ref (P.cl c)) none σ' H'
  | .bad => False
def tS (P : Kx) (G : Gl) (W : WX) (c : CS) : TS := fun d σ H => ∃ F I S, Sm P F I H σ S ∧ PoS P F G.pr I H σ W (evS G c S) (fun _ σ' _ H' => d.nx σ' H') (fun _ _ _ _ H' v => d.rt v H')
def tB (P : Kx) (G : Gl) (W : WX) (c : CSs) : TS := fun d σ H => ∃ F I S, Sm P F I H σ S ∧ PoS P F G.pr I H σ W (evB G c S) (fun _ σ' _ H' => d.nx σ' H') (fun _ _ _ _ H' v => d.rt v H')
section
variable {P : Kx} {F Fx : Addr → Prop} {pr pr' : List Nat} {I H I1 H1 : Hp} {σ σ1 : L2.St} {W : WX} {S : Sts} {nx nx' : Sts → L2.St → Hp → Hp → Prop} {rt rt' : (Bool × D) → Sts → L2.St → Hp → Hp → V → Prop}
theorem PoS.shift {r : SR} (p : Pin pr σ σ1) (e : Ext F I H I1 H1) (h : PoS P F pr I H σ W r nx rt) : PoS P F pr I1 H1 σ1 W r nx rt := by
  cases r with
  | nx S' => exact fun σ' I' H' q x => h σ' I' H' (p.trans q) (e.trans x)
  | rt d S' => exact fun σ' I' H' v q x => h σ' I' H' v (p.trans q) (e.trans x)
  | ex c S' => exact fun σ' I' H' q x => h σ' I' H' (p.trans q) (e.trans x)
  | bad => exact h
theorem PoS.st {α : Type} {r : Rs α} {f : α → Sts → SR} (h : PoS P F pr I H σ W (r.st f) nx rt) : Po P F I H σ W r fun a S1 I1 H1 => PoS P F pr I1 H1 σ W (f a S1) nx rt := by
  cases r with
  | ok a S' => exact fun I' H' e m => PoS.shift .refl e h
  | ex c S' => exact fun I' H' e m => h σ I' H' .refl e m
  | bad => exact h
theorem PoS.bind {r : SR} {f : Sts → SR} (h : PoS P F pr I H σ W (r.bind f) nx rt) : PoS P F pr I H σ W r (fun S1 σ1 I1 H1 => PoS P F pr I1 H1 σ1 W (f S1) nx rt) rt := by
  cases r with
  | nx S' => exact fun σ' I' H' q x m => PoS.shift q x h
  | rt d S' => exact h
  | ex c S' => exact h
  | bad => exact h
theorem PoS.mono {r : SR} (h : PoS P F pr I H σ W r nx rt) (q : ∀ S' σ' I' H', Sm P F I' H' σ' S' → nx S' σ' I' H' → nx' S' σ' I' H') (q2 : ∀ d S' σ' I' H' v, rt d S' σ' I' H' v → rt' d S' σ' I' H' v) : PoS P F pr I H σ W r nx' rt' := by
  cases r with
  | nx S' => exact fun σ' I' H' p x m => q _ _ _ _ m (h σ' I' H' p x m)
  | rt d S' => exact fun σ' I' H' v p x m tv => q2 _ _ _ _ _ _ (h σ' I' H' v p x m tv)
  | ex c S' => exact h
  | bad => exact h
theorem Tv.weak {v : V} {d : Bool × D} (h : Tv P Fx I H σ S v d) (hf : ∀ x, F x → Fx x) : Tv P F I H σ S v d := by
  unfold Tv at h ⊢
  split
  · rename_i hr
    rw [if_pos hr] at h
    obtain ⟨a, e, n, f, o, oc⟩ := h
    exact ⟨a, e, n, fun z => f (hf _ z), o, oc⟩
  · rename_i hr
    rw [if_neg hr] at h
    exact h
theorem Tv.unlock {lks : Lks} {v : V} {d : Bool × D} (h : Tv P F I H σ S v d) : Tv P F I H σ (unlockS S lks) v d := by
  unfold Tv at h ⊢
  split
  · rename_i hr
    rw [if_pos hr] at h
    obtain ⟨a, e, n, f, o, oc⟩ := h
    exact ⟨a, e, n, f, fun z => o (unlock_own z), oc⟩
  · rename_i hr
    rw [if_neg hr] at h
    exact h
end
section
variable {P : Kx} {G : Gl} {W : WX} {X : Cx} {st : Stmt} {rest sts a b : List Stmt} {c : CE} {s : CS} {r b1 b2 : CSs} {e : Expr} {pos : Pos}
theorem s_nil : PSs X [] (tB P G W .nil) := by
  refine pss_nil.weak fun d σ H ⟨F, I, S, m, h⟩ => ?_
  simp only [evB] at h
  exact h σ I H .refl .refl m
theorem s_cons (h1 : PS X st (tS P G W s)) (h2 : PSs X rest (tB P G W r)) : PSs X (st :: rest) (tB P G W (.cons s r)) := by
  refine (pss_cons h1 h2).weak fun d σ H ⟨F, I, S, m, h⟩ => ⟨F, I, S, m, ?_⟩
  simp only [evB] at h
  exact h.bind.mono (fun S' σ' I' H' m' q => ⟨F, I', S', m', q⟩) fun _ _ _ _ _ _ q => q
theorem s_if (hc : PT X e (tT P G W c)) (ha : PSs X a (tB P G W b1)) (hb : PSs X b (tB P G W b2)) : PS X (.If e a b pos) (tS P G W (.ife c b1 b2)) := by
  refine (ps_if hc ha hb).weak fun d σ H ⟨F, I, S, m, h⟩ => ⟨F, I, S, m, ?_⟩
  simp only [evS] at h
  refine h.st.mono fun t S1 I1 H1 x1 m1 h1 => ?_
  cases t with
  | true => exact ⟨F, I1, S1, m1, h1⟩
  | false => exact ⟨F, I1, S1, m1, h1⟩
theorem s_ret (h : PE X e (tE P G W c)) : PS X (.Return (some e) pos) (tS P G W (.ret c)) := by
  refine (ps_ret h).weak fun d σ H ⟨F, I, S, m, h⟩ => ⟨F, I, S, m, ?_⟩
  simp only [evS] at h
  exact h.st.mono fun r S1 I1 H1 x1 m1 h1 v tv => h1 σ I1 H1 v .refl .refl m1 tv
theorem s_retn : PS X (.Return none pos) (tS P G W .retn) := by
  refine ps_retN.weak fun d σ H ⟨F, I, S, m, h⟩ => ?_
  simp only [evS] at h
  exact h σ I H .non .refl .refl m (.of .non)
theorem s_pass : PS X (.Pass pos) (tS P G W .pass) := by
  refine ps_pass.weak fun d σ H ⟨F, I, S, m, h⟩ => ?_
  simp only [evS] at h
  exact h σ I H .refl .refl m
theorem s_expr (h : PE X e (tE P G W c)) (hs : swapsWith e none pos.line X.env = pure false) : PS X (.Expr e pos) (tS P G W (.expr c)) := by
  refine (ps_expr h hs).weak fun d σ H ⟨F, I, S, m, h⟩ => ⟨F, I, S, m, ?_⟩
  simp only [evS] at h
  exact h.st.mono fun r S1 I1 H1 x1 m1 h1 v tv => h1 σ I1 H1 .refl .refl m1
theorem s_raise {cl : Nat} (h : PS X st fun _ σ H => W (.ref (P.cl cl)) none σ H) : PS X st (tS P G W (.raise cl)) := by
  refine h.weak fun d σ H ⟨F, I, S, m, h⟩ => ?_
  simp only [evS] at h
  exact h σ I H .refl .refl m
theorem asg_go {t : Tg} {g : TG} (gs : GSd P t g) {d : Ends} {σ : L2.St} {H : Hp} (h : tS P G W (.set t c) d σ H) : tE P G W c σ H fun v H1 => g v σ H1 d.nx := by
  obtain ⟨F, I, S, m, h⟩ := h
  refine ⟨F, I, S, m, ?_⟩
  simp only [evS] at h
  refine h.st.mono fun r S1 I1 H1 x1 m1 h1 v tv => ?_
  cases hs : storeT G.pr S1 t r.1 r.2 with
  | none => rw [hs] at h1; exact h1.elim
  | some S2 =>
    rw [hs] at h1
    exact gs G.pr F I1 H1 σ S1 S2 v r.1 r.2 _ m1 tv hs fun σ' q1 q2 q3 m2 => h1 σ' I1 H1 q3 .refl m2
theorem s_set {t : Tg} {g : TG} (gs : GSd P t g) (h : PS X st (tAsg (tE P G W c) g)) : PS X st (tS P G W (.set t c)) := h.weak fun d σ H q => asg_go gs q
theorem s_setLc {t : Tg} {it : CI} {cs : CEs} {e : CE} {g : TG} {i : Nat} (gs : GSd P t g) (h : PS X st (tAsg (tLc (tI P G W it) g (tC P G W0 cs) (tE P G W0 e) t.slots) (gName i))) : PS X st (tS P G W (.set (.one i) (.comp t it cs e))) :=
  h.weak fun d σ H q => comp_go gs (asg_go gs_one q)
/-! ### loops -/
theorem s_for {tg iter : Expr} {body : List Stmt} {t : Tg} {it : CI} {b : CSs} {g : TG} (hp : PassesOwn (model X.prog X.w) X.A X.env X.xe) (hc : X.calm = true) (hi : PI X tg iter (tI P G W it)) (gs : GSd P t g) (hg : PG X tg g) (hb : ∀ is, PSs X body (tB P (G.prot is) W b)) (hs : ∀ x, foldedSetIterable iter X.env x = pure x) :
    PS X (.For tg iter body [] pos) (tS P G W (.loop t it b)) := by
  have hb' : PSs X body fun d σ H => ∃ is, tB P (G.prot is) W b d σ H := ⟨fun pins s σ H d J ⟨is, h⟩ => (hb is).run pins s σ H d J h⟩
  refine (ps_for hp hc hi hg hb' hs).weak fun d σ H ⟨F, I, S, m, h⟩ => ⟨F, I, S, m, ?_⟩
  simp only [evS] at h
  refine h.st.mono fun x S1 I1 H1 x1 m1 h1 J Fx hF mx hit => ?_
  have hp' : ∀ {σ1 σ2 : L2.St}, Pin (lkSlots x.2 ++ G.pr) σ1 σ2 → Pin G.pr σ1 σ2 := fun q j hj => q j (List.mem_append_right _ hj)
  refine ⟨fun i n σk Hk => ∃ (Ik : Hp) (Sk : Sts) (rest : List D), x.1.drop i = rest ∧ n = rest.length ∧ i ≤ x.1.length ∧ Ext Fx I1 H1 Ik Hk ∧ Pin (lkSlots x.2 ++ G.pr) σ σk ∧ Sm P Fx Ik Hk σk Sk ∧
    PoS P F G.pr Ik Hk σk W ((evFor (lkSlots x.2 ++ G.pr) x.2 t (evB (G.prot (lkSlots x.2)) b) rest Sk).mapS fun S2 => unlockS S2 x.2) (fun _ σ' _ H' => d.nx σ' H') (fun _ _ _ _ H' v => d.rt v H'), ⟨x.1.length, I1, S1, x.1, rfl, rfl, Nat.zero_le _, .refl, .refl, mx, h1⟩, ?_⟩
  rintro i n σk Hk ⟨Ik, Sk, rest, hr, hn, hil, xk, pk, mk, hk⟩
  have agree : ∀ l ∈ x.2, σk[l.1]? = σ[l.1]? := fun l hl => pk l.1 (List.mem_append_left _ (List.mem_map.mpr ⟨l, hl, rfl⟩))
  cases rest with
  | nil =>
    have hi' : i = x.1.length := by
      have : (x.1.drop i).length = 0 := by rw [hr]; rfl
      rw [List.length_drop] at this
      omega
    simp only [evFor] at hk
    by_cases hlk : lkOk Sk x.2 = true
    case neg => rw [if_neg hlk] at hk; exact hk.elim
    rw [if_pos hlk] at hk
    refine .inl ⟨(hit i Ik Hk σk Sk _ xk mk hlk agree).1 hi', hk σk Ik Hk .refl .refl (mk.weak hF).unlock⟩
  | cons dd rest =>
    have hd : x.1[i]? = some dd := by
      have : (x.1.drop i)[0]? = some dd := by rw [hr]; rfl
      rw [List.getElem?_drop] at this
      simpa using this
    have hlt : i < x.1.length := (List.getElem?_eq_some_iff.mp hd).1
    have hr2 : x.1.drop (i + 1) = rest := by
      have : (x.1.drop i).drop 1 = rest := by rw [hr]; rfl
      rw [List.drop_drop] at this
      exact this
    simp only [evFor] at hk
    by_cases hlk : lkOk Sk x.2 = true
    case neg => rw [if_neg hlk] at hk; exact hk.elim
    rw [if_pos hlk] at hk
    obtain ⟨hgo, hyl⟩ := (hit i Ik Hk σk Sk _ xk mk hlk agree).2 dd hd
    refine .inr ⟨hgo, _, fun σ' H' q => q, fun v H3 hy => ?_⟩
    obtain ⟨I3, x3, m3, r3⟩ := hyl v H3 hy
    split at hk
    · exact hk.elim
    rename_i S2 hst
    refine gs (lkSlots x.2 ++ G.pr) Fx I3 H3 σk Sk S2 v false dd _ m3 (.of r3) hst fun σ2 q1 q2 q3 m4 => ?_
    refine ⟨lkSlots x.2, Fx, I3, S2, m4, ?_⟩
    have e3 : Ext F Ik Hk I3 H3 := x3.weak hF
    generalize evB (G.prot (lkSlots x.2)) b S2 = rb at hk
    cases rb with
    | nx S5 =>
      intro σ5 I5 H5 p5 x5 m5
      refine ⟨rest.length, by rw [hn]; exact Nat.lt_succ_self _, I5, S5, rest, hr2, rfl, hlt, xk.trans (x3.trans x5), pk.trans ((show Pin _ _ _ from q3).trans p5), m5, ?_⟩
      exact PoS.shift (hp' ((show Pin _ _ _ from q3).trans p5)) (e3.trans (x5.weak hF)) hk
    | rt r5 S5 =>
      intro σ5 I5 H5 v5 p5 x5 m5 tv
      exact hk σ5 I5 H5 v5 (hp' ((show Pin _ _ _ from q3).trans p5)) (e3.trans (x5.weak hF)) (m5.weak hF).unlock (tv.weak hF).unlock
    | ex c5 S5 =>
      intro σ5 I5 H5 p5 x5 m5
      exact hk σ5 I5 H5 (hp' ((show Pin _ _ _ from q3).trans p5)) (e3.trans (x5.weak hF)) (m5.weak hF).unlock
    | bad => exact hk
theorem s_while {n : Nat} {body : List Stmt} {b : CSs} (hp : PassesOwn (model X.prog X.w) X.A X.env X.xe) (hc : PT X e (tT P G W c)) (hb : PSs X body (tB P G W b)) : PS X (.While e body [] pos) (tS P G W (.whl n c b)) := by
  refine (ps_while hp hc hb).weak fun d σ H ⟨F, I, S, m, h⟩ => ?_
  simp only [evS] at h
  refine ⟨fun k σk Hk => ∃ Ik Sk, Sm P F Ik Hk σk Sk ∧ PoS P F G.pr Ik Hk σk W (evWhl (evT G c) (evB G b) k Sk) (fun _ σ' _ H' => d.nx σ' H') (fun _ _ _ _ H' v => d.rt v H'), ⟨n, I, S, m, h⟩, ?_⟩
  rintro k σk Hk ⟨Ik, Sk, mk, hk⟩
  cases k with
  | zero => exact hk.elim
  | succ k =>
    simp only [evWhl] at hk
    refine ⟨F, Ik, Sk, mk, hk.st.mono fun t S1 I1 H1 x1 m1 h1 => ?_⟩
    cases t with
    | true =>
      refine ⟨_, fun σ' H' q => ⟨k, Nat.lt_succ_self _, q⟩, F, I1, S1, m1, ?_⟩
      exact (show PoS P F G.pr I1 H1 σk W ((evB G b S1).bind fun S2 => evWhl (evT G c) (evB G b) k S2) _ _ from h1).bind.mono (fun S' σ' I' H' m' q => ⟨I', S', m', q⟩) fun _ _ _ _ _ _ q => q
    | false => exact h1 σk I1 H1 .refl .refl m1
end
end Ev

set_option Elab.async false
set_option linter.all false
set_option maxRecDepth 100000
set_option maxHeartbeats 4000000
set_option autoImplicit false
/-! Ev16: things that are owned are changed. -/
namespace Ev
open PySem PySem.Spec PyProof.Rows L2

section
variable {P : Kx} {G : Gl} {W : WX} {X : Cx} {F : Addr → Prop} {I H : Hp} {σ : L2.St} {S : Sts}
/-- an owned list holds other things -/
theorem Sm.relist {i : Nat} {a : Addr} {ds es : List D} {xs : List V} (m : Sm P F I H σ S) (h : S[i]? = some (Sl.ow (.list ds))) (ea : σ[i]? = some (some (.ref a))) (z : xs.length ≤ szl) (r : RpAll P I xs es) :
    Sm P F I (upd H a (.lst xs)) σ (S.set i (.ow (.list es))) ∧ Ext F I H I (upd H a (.lst xs)) :=
  m.turn (ow_own h) ea (.ow _) (.of (.lst upd_same z r)) fun _ => .lst upd_same z r
theorem own_lst {i : Nat} {ds : List D} (m : Sm P F I H σ S) (h : S[i]? = some (Sl.ow (.list ds))) : ∃ a xs, σ[i]? = some (some (.ref a)) ∧ H a = some (.lst xs) ∧ xs.length ≤ szl ∧ RpAll P I xs ds := by
  obtain ⟨a, e, _, _, _, oc⟩ := m.own i _ (ow_own h)
  cases oc h with
  | lst h1 z r => exact ⟨a, _, e, h1, z, r⟩
theorem s_setix {i : Nat} {x : Str} {k e : Expr} {ck ce : CE} {p p1 pos : Pos} (hN : X.N[i]? = some x) (hv : Vis X.env.scope x) (hd : (x == ("__debug__" : Str)) = false) (hcd : (x == ("__classdict__" : Str)) = false) (hns : noSlice k = true) (hk : PE X k (tE P G W ck)) (he : PE X e (tE P G W ce)) :
    PS X (.Assign [.Subscript (.Name x p1) k p] e pos) (tS P G W (.setix i ck ce)) := by
  have hs : swapsWithSole [.Subscript (.Name x p1) k p] e pos.line X.env = pure false := by cases e <;> rfl
  have hA : ∀ v, assign (.Subscript (.Name x p1) k p) X.env v = (do
      let ov ← holding [v] (eval (.Name x p1) X.env)
      let iv ← holding [v, ov] (eval k X.env)
      standAt p
      holding [v, ov, iv] (setItem ov iv v)
      release [v, ov, iv] []) := by
    intro v
    cases k <;> first | rfl | (simp [noSlice] at hns; done)
  have hB : (assignEach [.Subscript (.Name x p1) k p] X.env).map (·.2) = [assign (.Subscript (.Name x p1) k p) X.env] := by
    cases k <;> first | rfl | (simp [noSlice] at hns; done)
  refine (ps_asg he (pg_sub (pe_var hN hv hd hcd) hk set_list hA) hs rfl hB).weak fun d σ H ⟨F, I, S, m, h⟩ => ⟨F, I, S, m, ?_⟩
  simp only [evS] at h
  refine h.st.mono fun v S1 I1 H1 x1 m1 h1 u tv => ?_
  obtain ⟨I2, m2, x2, ru⟩ := tv.keep m1
  split at h1
  · exact h1.elim
  rename_i hr
  cases hrd : rdS S1 i with
  | none => rw [hrd] at hr; exact absurd rfl hr
  | some d0 =>
    obtain ⟨o, eo, _⟩ := rd_to m2 hrd
    have h2 := PoS.shift .refl x2 h1
    refine ⟨o, eo, F, I2, S1, m2, h2.st.mono fun j S3 I3 H3 x3 m3 h3 w tw => ?_⟩
    split at h3
    · rename_i ds hs
      split at h3
      · rename_i n hj
        split at h3
        · rename_i mm hx
          obtain ⟨a, xs, ea, hl, z, r⟩ := own_lst m3 hs
          rw [eo] at ea
          cases ea
          have tw' := tw.to
          rw [hj] at tw'
          have q := m3.relist hs eo (xs := xs.set mm u) (by rw [List.length_set]; exact z) (r.set (ru.mono x3.same) mm)
          refine ⟨a, xs, n, mm, rfl, tw'.int, hl, by rw [r.length]; exact hx, ?_⟩
          exact h3 σ I3 _ .refl q.2 q.1
        · exact h3.elim
      · exact h3.elim
    · exact h3.elim
    · exact h3.elim
def muN : Mu → Str
  | .append => "append"
  | .reverse => "reverse"
  | .clear => "clear"
  | .pop => "pop"
theorem mut_go {mu : Mu} {i : Nat} {cs : CEs} {Q : VK} {r : V → List V → Hp → VK → Prop} (hK : X.K = P.K) (h : tE P G W (.mutv mu i cs) σ H Q)
    (hr : ∀ (a : Addr) (xs zs : List V) (ds es : List D) (x : D) (es' : List D) (I1 H1 : Hp) (Q : VK), H1 a = some (.lst xs) → xs.length ≤ szl → RpAll P I1 xs ds → RpAll P I1 zs es → mutD mu (.list ds) es = some (x, .list es') →
      (∀ v xs', xs'.length ≤ szl → RpAll P I1 xs' es' → Rp P I1 v x → Q v (upd H1 a (.lst xs'))) → r (.ref a) zs H1 Q) :
    ∃ o, σ[i]? = some (some o) ∧ tyV X.K "list" o H ∧ tLs P G W cs σ H fun vs H1 => r o vs H1 Q := by
  obtain ⟨F, I, S, m, h⟩ := h
  simp only [ev] at h
  split at h
  · exact h.elim
  rename_i hi
  cases hrd : rdS S i with
  | none => rw [hrd] at hi; simp [isLst] at hi
  | some d0 =>
    rw [hrd] at hi
    obtain ⟨o, eo, t0⟩ := rd_to m hrd
    cases d0 <;> simp [isLst] at hi
    obtain ⟨a0, xs0, rfl, h0, z0, r0⟩ := t0.lst m.sub
    refine ⟨_, eo, .inl ⟨rfl, xs0, .of h0⟩, F, I, S, m, h.bind.mono fun ds S1 I1 H1 x1 m1 h1 vs hvs => ?_⟩
    split at h1
    · rename_i d hs
      split at h1
      · rename_i x d' hm
        have hd : ∃ ds', d = .list ds' := by
          cases mu <;> cases d <;> simp [mutD] at hm <;> exact ⟨_, rfl⟩
        obtain ⟨ds', rfl⟩ := hd
        have hd' : ∃ es', d' = .list es' := by
          unfold mutD at hm
          split at hm
          · split at hm
            · cases hm; exact ⟨_, rfl⟩
            · cases hm
          · cases hm; exact ⟨_, rfl⟩
          · cases hm; exact ⟨_, rfl⟩
          · split at hm
            · cases hm; exact ⟨_, rfl⟩
            · cases hm
          · cases hm
        obtain ⟨es', rfl⟩ := hd'
        obtain ⟨a, xs, ea, hl, z, rr⟩ := own_lst m1 hs
        rw [eo] at ea
        cases ea
        refine hr _ xs vs ds' ds x es' I1 H1 _ hl z rr hvs hm fun v xs' z' r' rv => ?_
        have q := m1.relist hs eo z' r'
        exact h1 I1 _ q.2 q.1 v (.of rv)
      · exact h1.elim
    · exact h1.elim
theorem e_append {i : Nat} {x : Str} {e : Expr} {c : CE} {p apos cpos : Pos} (hK : X.K = P.K) (hN : X.N[i]? = some x) (hv : Vis X.env.scope x) (hd : (x == ("__debug__" : Str)) = false) (hcd : (x == ("__classdict__" : Str)) = false) (hl : (apos.endLine == cpos.line) = true) (hn : noStar e = true) (he : PE X e (tE P G W c)) :
    PE X (.Call (.Attribute (.Name x p) "append" apos) [e] [] cpos) (tE P G W (.mutv .append i (.cons c .nil))) := by
  have hs := star_of hn [] X.env
  refine (pe_bm (T := "list") (id := "list.append") F.plainAttrs_list F.slot_list_append rfl mt_append (pe_var hN hv hd hcd) (ls_cons hn he ls_nil) rfl (by rw [hs]; rfl) hl hs (by rfl)).weak fun σ H Q h => ?_
  refine mut_go hK h fun a xs zs ds es y es' I1 H1 Q h1 z r rz hm k => ?_
  cases rz with
  | nil => simp [mutD] at hm
  | cons ra rb => cases rb with
    | nil =>
      simp only [mutD] at hm
      split at hm
      · rename_i hz
        cases hm
        have hl := r.length
        refine ⟨a, xs, _, rfl, rfl, h1, ?_, k _ _ ?_ (r.append (.cons ra .nil)) .non⟩
        · rw [← szl_eq]; omega
        · rw [List.length_append, List.length_singleton]; omega
      · cases hm
    | cons _ _ => simp [mutD] at hm
theorem e_mut0 {mu : Mu} {id : String} {r : V → List V → Hp → VK → Prop} {i : Nat} {x : Str} {p apos cpos : Pos} (hK : X.K = P.K) (hN : X.N[i]? = some x) (hv : Vis X.env.scope x) (hd : (x == ("__debug__" : Str)) = false) (hcd : (x == ("__classdict__" : Str)) = false) (hl : (apos.endLine == cpos.line) = true)
    (slot : Slot "list" (muN mu) id) (hty : typeOf (.builtin id) = pure (.type "method_descriptor")) (hm : MtR X id r)
    (hr : ∀ (a : Addr) (xs : List V) (ds : List D) (x : D) (es' : List D) (I1 H1 : Hp) (Q : VK), H1 a = some (.lst xs) → xs.length ≤ szl → RpAll P I1 xs ds → mutD mu (.list ds) [] = some (x, .list es') →
      (∀ v xs', xs'.length ≤ szl → RpAll P I1 xs' es' → Rp P I1 v x → Q v (upd H1 a (.lst xs'))) → r (.ref a) [] H1 Q) :
    PE X (.Call (.Attribute (.Name x p) (muN mu) apos) [] [] cpos) (tE P G W (.mutv mu i .nil)) := by
  refine (pe_bm0 (T := "list") (id := id) F.plainAttrs_list slot hty hm (pe_var hN hv hd hcd) rfl hl).weak fun σ H Q h => ?_
  obtain ⟨o, eo, ty, F, I, S, m, h⟩ := mut_go (r := fun x zs H Q => zs = [] → r x zs H Q) hK h fun a xs zs ds es y es' I1 H1 Q h1 z r rz hm k hz => by
    subst hz
    cases rz
    exact hr a xs ds y es' I1 H1 Q h1 z r hm k
  refine ⟨o, eo, ty, ?_⟩
  simp only [evL] at h
  exact h.ok m [] .nil rfl
theorem e_mut {mu : Mu} {i : Nat} {x : Str} {p apos cpos : Pos} (hmu : mu ≠ .append) (hK : X.K = P.K) (hN : X.N[i]? = some x) (hv : Vis X.env.scope x) (hd : (x == ("__debug__" : Str)) = false) (hcd : (x == ("__classdict__" : Str)) = false) (hl : (apos.endLine == cpos.line) = true) :
    PE X (.Call (.Attribute (.Name x p) (muN mu) apos) [] [] cpos) (tE P G W (.mutv mu i .nil)) := by
  cases mu with
  | append => exact absurd rfl hmu
  | reverse =>
    refine e_mut0 hK hN hv hd hcd hl F.slot_list_reverse rfl mt_reverse fun a xs ds y es' I1 H1 Q h1 z r hm k => ?_
    simp only [mutD, Option.some.injEq, Prod.mk.injEq, PyData.list.injEq] at hm
    obtain ⟨rfl, rfl⟩ := hm
    exact ⟨a, xs, rfl, rfl, h1, k _ _ (by rw [List.length_reverse]; exact z) r.reverse .non⟩
  | clear =>
    refine e_mut0 hK hN hv hd hcd hl F.slot_list_clear rfl mt_clear fun a xs ds y es' I1 H1 Q h1 z r hm k => ?_
    simp only [mutD, Option.some.injEq, Prod.mk.injEq, PyData.list.injEq] at hm
    obtain ⟨rfl, rfl⟩ := hm
    exact ⟨a, xs, rfl, rfl, h1, k _ _ (Nat.zero_le _) .nil .non⟩
  | pop =>
    refine e_mut0 hK hN hv hd hcd hl F.slot_list_pop rfl mt_pop fun a xs ds y es' I1 H1 Q h1 z r hm k => ?_
    simp only [mutD] at hm
    split at hm
    · rename_i yy hy
      cases hm
      rw [List.getLast?_eq_getElem?] at hy
      obtain ⟨v, hv, rv⟩ := r.get hy
      refine ⟨a, xs, v, rfl, rfl, h1, by rw [r.length]; exact hv, k _ _ ?_ r.dropLast rv⟩
      rw [List.length_dropLast]
      omega
    · cases hm
end
end Ev

set_option Elab.async false
set_option linter.all false
set_option maxRecDepth 100000
set_option maxHeartbeats 4000000
set_option autoImplicit false
/-! Ev17: the look at an expression: is it the one that the evaluator has; where it is, the evaluator is right. -/
namespace Ev
open PySem PySem.Spec PyProof.Rows L2

/-- what a def's text may name -/
structure Tab where
  N : List Str
  bl : List Str
  gl : List (Nat × Str)
  fn : List (Nat × Str × List Bool)
  cl : List (Nat × Str)
def okNm (x : Str) : Bool := !(x == ("__debug__" : Str)) && !(x == ("__classdict__" : Str))
def isVis (sc : Scope) (x : Str) : Bool := match sc.names.lookup x with
  | some .local => true
  | some .cell => true
  | some .free => true
  | _ => false
def isLoc (sc : Scope) (x : Str) : Bool := match sc.names.lookup x with
  | some .local => true
  | some .cell => true
  | _ => false
def isGl (sc : Scope) (x : Str) : Bool := match sc.names.lookup x with
  | some .globalImplicit => true
  | _ => false
def isNm (T : Tab) (sc : Scope) (i : Nat) (x : Str) : Bool := decide (T.N[i]? = some x) && isVis sc x && okNm x
def cstOk : Const → D → Bool
  | .none, .none => true
  | .bool a, .bool b => a == b
  | .int i, .int j => decide (i = j)
  | .str x, .str y => decide (x = y) && decide (x.length ≤ szl)
  | _, _ => false
def noSet : Expr → Bool
  | .Set _ _ _ => false
  | _ => true
def noComp : Expr → Bool
  | .ListComp _ _ _ _ => false
  | .SetComp _ _ _ _ => false
  | .DictComp _ _ _ _ _ => false
  | _ => true
def isVar : CE → Bool
  | .var _ => true
  | _ => false
/-- the names of a target -/
def chkNs (nm : Nat → Str → Bool) : List Nat → List Expr → Bool
  | [], [] => true
  | i :: is, .Name x _ :: es => nm i x && chkNs nm is es
  | _, _ => false
def chkTg (nm : Nat → Str → Bool) : Tg → Expr → Bool
  | .one i, .Name x _ => nm i x
  | .many is, .Tuple es _ _ => chkNs nm is es
  | _, _ => false
def tgNames : Expr → List Str
  | .Name x _ => [x]
  | .Tuple es _ _ => es.filterMap fun
    | .Name x _ => some x
    | _ => none
  | _ => []
/-- a block's own names at their slots -/
def ownOf (tg : Expr) (t : Tg) : List (Str × Nat) := (tgNames tg).zip t.slots
def opEq (a b : Operator) : Bool := decide (a = b)
def cmEq (a b : CmpOp) : Bool := decide (a = b)
def isTup : Expr → Bool
  | .Tuple _ _ _ => true
  | _ => false
def mutOk (T : Tab) (sc : Scope) (m : Mu) (i : Nat) : Expr → Bool
  | .Call (.Attribute (.Name x _) n apos) [] [] cpos => decide (n = muN m) && decide (m ≠ .append) && isNm T sc i x && (apos.endLine == cpos.line)
  | _ => false
mutual
/-- b: as a test -/
def chkE (T : Tab) (sc : Scope) : Bool → CE → Expr → Bool
  | b, .var i, e => match e with
    | .Name x _ => isNm T sc i x
    | _ => false
  | b, .cst d, e => match e with
    | .Constant c _ _ => cstOk c d
    | _ => false
  | b, .glob g, e => match e with
    | .Name x _ => isGl sc x && T.gl.contains (g, x) && okNm x
    | _ => false
  | b, .neg a, e => match e with
    | .UnaryOp .USub x _ => chkE T sc false a x
    | _ => false
  | b, .not a, e => match e with
    | .UnaryOp .Not x _ => chkE T sc b a x
    | _ => false
  | b, .and a c, e => match e with
    | .BoolOp .And (x :: y :: ys) p => chkE T sc b a x && (if ys.isEmpty then chkE T sc b c y else chkE T sc b c (.BoolOp .And (y :: ys) p))
    | _ => false
  | b, .or a c, e => match e with
    | .BoolOp .Or (x :: y :: ys) p => chkE T sc b a x && (if ys.isEmpty then chkE T sc b c y else chkE T sc b c (.BoolOp .Or (y :: ys) p))
    | _ => false
  | b, .ife c a d, e => match e with
    | .IfExp z x y _ => !b && chkE T sc true c z && chkE T sc false a x && chkE T sc false d y
    | _ => false
  | b, .bin o a c, e => match e with
    | .BinOp x op y _ => opEq op (opOf o) && chkE T sc false a x && chkE T sc false c y
    | _ => false
  | b, .cmp o a c, e => match e with
    | .Compare x [op] [y] _ => cmEq op (copOf o) && chkE T sc false a x && chkE T sc false c y && !behindInMarks (copOf o) y
    | _ => false
  | b, .chain o p a c d, e => match e with
    | .Compare x [op, op2] [y, z] _ => cmEq op (copOf o) && cmEq op2 (copOf p) && chkE T sc false a x && chkE T sc false c y && chkE T sc false d z && !lastMarks [copOf o, copOf p] [y, z]
    | _ => false
  | b, .tup es, e => match e with
    | .Tuple xs _ _ => chkL T sc es xs
    | _ => false
  | b, .lst es, e => match e with
    | .List xs _ => chkL T sc es xs
    | _ => false
  | b, .dct, e => match e with
    | .Dict [] [] _ => true
    | _ => false
  | b, .comp t it cs f, e => match e with
    | .ListComp elt [⟨tg, iter, ifs, 0⟩] scope _ => chkI T sc (isTup tg) it iter && noSet iter && blkC T.N sc scope (ownOf tg t) && decide ((ownOf tg t).map (·.2) = t.slots) && chkTg (fun i x => decide (T.N[i]? = some x) && isLoc scope x) t tg &&
        chkC T (relS scope sc) cs ifs && chkE T (relS scope sc) false f elt
    | _ => false
  | b, .ix a c, e => match e with
    | .Subscript x y _ => noSlice y && chkE T sc false a x && chkE T sc false c y
    | _ => false
  | b, .sl a lo hi, e => match e with
    | .Subscript x (.Slice l u none _) _ => chkE T sc false a x && chkP T sc lo l && chkP T sc hi u
    | _ => false
  | b, .call f as, e => match e with
    | .Call (.Name x _) es [] _ => isGl sc x && okNm x && (T.fn.any fun q => decide (q.1 = f) && decide (q.2.1 = x) && chkA T sc as q.2.2 es)
    | _ => false
  | b, .bi k as, e => match e with
    | .Call (.Name x _) (y :: ys) [] _ => decide (x = biN k) && hasBi k && isGl sc x && T.bl.contains x && chkL T sc as (y :: ys)
    | _ => false
  | b, .isi a t, e => match e with
    | .Call (.Name x _) [y, .Name v _] [] _ => decide (x = "isinstance") && decide (v = Str.ofString (tyN t)) && (match t with | .exc _ => false | .valueError => false | .none => false | _ => true) && isGl sc x && T.bl.contains x && isGl sc v && T.bl.contains v && noStar y && chkE T sc false a y
    | _ => false
  | b, .mutv .append i (.cons c .nil), e => match e with
    | .Call (.Attribute (.Name x _) m apos) [y] [] cpos => decide (m = "append") && isNm T sc i x && (apos.endLine == cpos.line) && noStar y && chkE T sc false c y
    | _ => false
  | b, .mutv m i .nil, e => mutOk T sc m i e
  | _, _, _ => false
def chkL (T : Tab) (sc : Scope) : CEs → List Expr → Bool
  | .nil, [] => true
  | .cons c cs, e :: es => noStar e && chkE T sc false c e && chkL T sc cs es
  | _, _ => false
def chkA (T : Tab) (sc : Scope) : CEs → List Bool → List Expr → Bool
  | .nil, [], [] => true
  | .cons c cs, b :: io, e :: es => noStar e && chkE T sc false c e && chkA T sc cs io es
  | _, _, _ => false
def chkP (T : Tab) (sc : Scope) : CEs → Option Expr → Bool
  | .nil, none => true
  | .cons c .nil, some e => chkE T sc false c e
  | _, _ => false
def chkC (T : Tab) (sc : Scope) : CEs → List Expr → Bool
  | .nil, [] => true
  | .cons c .nil, [e] => chkE T sc true c e
  | _, _ => false
def chkI (T : Tab) (sc : Scope) (tt : Bool) : CI → Expr → Bool
  | .seq a, e => chkE T sc false a e
  | .range1 a, e => match e with
    | .Call (.Name x _) [y] [] _ => decide (x = "range") && isGl sc x && T.bl.contains x && noStar y && chkE T sc false a y
    | _ => false
  | .range2 a c, e => match e with
    | .Call (.Name x _) [y, z] [] _ => decide (x = "range") && isGl sc x && T.bl.contains x && noStar y && noStar z && chkE T sc false a y && chkE T sc false c z
    | _ => false
  | .zip a c, e => match e with
    | .Call (.Name x _) [y, z] [] _ => tt && decide (x = "zip") && isGl sc x && T.bl.contains x && noStar y && noStar z && chkE T sc false a y && chkE T sc false c z
    | _ => false
  | .enum a, e => match e with
    | .Call (.Name x _) [y] [] _ => tt && decide (x = "enumerate") && isGl sc x && T.bl.contains x && noStar y && chkE T sc false a y
    | _ => false
  | .items a, _ => false
end
end Ev

set_option Elab.async false
set_option linter.all false
set_option maxRecDepth 100000
set_option maxHeartbeats 4000000
set_option autoImplicit false
/-! Ev18: where the look says so, the evaluator is right: expressions. -/
namespace Ev
open PySem PySem.Spec PyProof.Rows L2

/-- a def that may be called here -/
structure FnIn (P : Kx) (G : Gl) (X : Cx) (fi : Nat) (x : Str) (io : List Bool) : Prop where
  ex : ∃ (fe : FE) (k : Nat) (f : Addr) (fd : FuncData) (ps : List Str), G.fn fi = some fe ∧ fe.io = io ∧ FnG X.prog X.w X.K X.mg X.base k f fd ps (spF P fe) ∧ Room k X.A ∧ X.mg x = some (.ref f) ∧ PySem.W.keepIn X.K (.ref f) = true ∧ Binds X.K fd ps []
/-- where an expression stands -/
structure Cn (P : Kx) (G : Gl) (T : Tab) (W : WX) (X : Cx) (sc : Scope) : Prop extends Rm P X where
  scope : X.env.scope = sc
  N : X.N = T.N
  nd : X.N.Nodup
  tk : Takes X W
  blt : ∀ x ∈ T.bl, X.mg x = none
  gl : ∀ i x, (i, x) ∈ T.gl → ∃ v u d, X.mg x = some u ∧ RelV v u ∧ (∀ I, Rp P I v d) ∧ G.con i = some d
  fn : ∀ i x io, (i, x, io) ∈ T.fn → FnIn P G X i x io
section
variable {P : Kx} {G : Gl} {T : Tab} {W : WX} {X : Cx} {sc : Scope}
theorem Cn.prot (c : Cn P G T W X sc) (is : List Nat) : Cn P (G.prot is) T W X sc :=
  ⟨c.toRm, c.scope, c.N, c.nd, c.tk, c.blt, c.gl, fun i x io h => ⟨(c.fn i x io h).ex⟩⟩
theorem Cn.blk (c : Cn P G T W X sc) (scope : Scope) (s : Shared) (H : Hp) (C : Addr) (cl : List (Str × Addr)) (fp : List Addr) : Cn P G T W0 (X.blk s H scope (compEnvC scope cl C X.env) fp) (relS scope sc) :=
  ⟨⟨c.hK, c.calm, c.gd, c.un⟩, by rw [← c.scope]; rfl, c.N, c.nd, takes0, c.blt, c.gl, fun i x io h => ⟨(c.fn i x io h).ex⟩⟩
theorem vis_of {x : Str} (h : isVis sc x = true) : Vis sc x := by
  unfold isVis at h
  split at h
  · rename_i q; exact .inl q
  · rename_i q; exact .inr (.inl q)
  · rename_i q; exact .inr (.inr q)
  · cases h
theorem okNm_of {x : Str} (h : okNm x = true) : (x == ("__debug__" : Str)) = false ∧ (x == ("__classdict__" : Str)) = false := by
  unfold okNm at h
  simpa using h
theorem nm_of {i : Nat} {x : Str} (c : Cn P G T W X sc) (h : isNm T sc i x = true) : X.N[i]? = some x ∧ Vis X.env.scope x ∧ (x == ("__debug__" : Str)) = false ∧ (x == ("__classdict__" : Str)) = false := by
  unfold isNm at h
  simp only [Bool.and_eq_true, decide_eq_true_eq] at h
  rw [c.N, c.scope]
  obtain ⟨⟨h1, h2⟩, h3⟩ := h
  exact ⟨h1, vis_of h2, okNm_of h3⟩
theorem gl_of {x : Str} (c : Cn P G T W X sc) (h : isGl sc x = true) : L2.Gl X x := by
  unfold isGl at h
  split at h
  · rename_i q
    show X.env.scope.names.lookup x = _
    rw [c.scope]
    exact q
  · cases h
theorem bl_of {x : Str} (c : Cn P G T W X sc) (h : T.bl.contains x = true) : X.mg x = none := c.blt x (by simpa using h)
theorem cst_of {c : Const} {d : D} (h : cstOk c d = true) : (c = .none ∧ d = .none) ∨ (∃ b, c = .bool b ∧ d = .bool b) ∨ (∃ i, c = .int i ∧ d = .int i) ∨ (∃ x, c = .str x ∧ d = .str x ∧ x.length ≤ szl) := by
  unfold cstOk at h
  split at h
  · exact .inl ⟨rfl, rfl⟩
  · simp only [beq_iff_eq] at h; subst h; exact .inr (.inl ⟨_, rfl, rfl⟩)
  · simp only [decide_eq_true_eq] at h; subst h; exact .inr (.inr (.inl ⟨_, rfl, rfl⟩))
  · simp only [Bool.and_eq_true, decide_eq_true_eq] at h
    obtain ⟨rfl, h⟩ := h
    exact .inr (.inr (.inr ⟨_, rfl, rfl, h⟩))
  · cases h
/-- a value or a test -/
def PB (P : Kx) (G : Gl) (W : WX) (X : Cx) (b : Bool) (c : CE) (e : Expr) : Prop := (b = false → PE X e (tE P G W c)) ∧ (b = true → PT X e (tT P G W c))
/-- where a value has its rule, so has its test -/
theorem PB.of {b : Bool} {c : CE} {e : Expr} (hK : X.K = P.K) (hc : plainC c = true) (hv : ∀ i, c ≠ .var i) (he : simpleTest e = true) (h : PE X e (tE P G W c)) : PB P G W X b c e :=
  ⟨fun _ => h, fun _ => t_of hK hc he (o_of hv h)⟩
theorem po_of {c : CE} {e : Expr} (cn : Cn P G T W X sc) (hc : chkE T sc false c e = true) (h : PE X e (tE P G W c)) : PE X e (tO P G W c) := by
  by_cases hv : ∃ i, c = .var i
  · obtain ⟨i, rfl⟩ := hv
    unfold chkE at hc
    split at hc
    · obtain ⟨h1, h2, h3, h4⟩ := nm_of cn hc
      exact o_var h1 h2 h3 h4
    · cases hc
  · exact o_of (fun i e => hv ⟨i, e⟩) h
theorem ownOf_names : ∀ {is : List Nat} {es : List Expr} {nm : Nat → Str → Bool} {X : Cx}, (∀ i x, nm i x = true → NmS X i x) → chkNs nm is es = true → NmAll X is es
  | [], [], nm, X, hs, h => .nil
  | [], _ :: _, nm, X, hs, h => by simp [chkNs] at h
  | i :: is, [], nm, X, hs, h => by simp [chkNs] at h
  | i :: is, e :: es, nm, X, hs, h => by
    cases e <;> simp only [chkNs, Bool.and_eq_true] at h <;> first | cases h | skip
    rename_i h1 h2
    exact .cons (hs _ _ h1) (ownOf_names hs h2)
/-- a target that the look has let by -/
theorem tg_of {nm : Nat → Str → Bool} {t : Tg} {tg : Expr} (h : chkTg nm t tg = true) : ∃ g, GSd P t g ∧ ∀ {X : Cx}, X.K = P.K → X.calm = true → (∀ i x, nm i x = true → NmS X i x) → PG X tg g := by
  cases t with
  | one i =>
    cases tg <;> simp only [chkTg] at h <;> first | cases h | skip
    exact ⟨_, gs_one, fun hK hc hs => let n := hs _ _ h; pg_name n.nd n.ix n.loc n.fn⟩
  | many is =>
    cases tg <;> simp only [chkTg] at h <;> first | cases h | skip
    exact ⟨_, gs_many, fun hK hc hs => pg_names hK hc (ownOf_names hs h)⟩
theorem blk_nm (c : Cn P G T W X sc) {scope : Scope} (s : Shared) (H : Hp) (C : Addr) (cl : List (Str × Addr)) (fp : List Addr) (i : Nat) (x : Str) (h : (decide (T.N[i]? = some x) && isLoc scope x) = true) : NmS (X.blk s H scope (compEnvC scope cl C X.env) fp) i x := by
  simp only [Bool.and_eq_true, decide_eq_true_eq] at h
  obtain ⟨h1, h2⟩ := h
  have hsc : (compEnvC scope cl C X.env).scope = relS scope X.env.scope := rfl
  unfold isLoc at h2
  split at h2
  · rename_i q
    have q2 : (relS scope X.env.scope).names.lookup x = some .local := lookup_relS_keep (by decide) q
    exact ⟨c.nd, by rw [← h1, ← c.N], .inl (by rw [hsc]; exact q2), .inr (by rw [hsc]; exact q2)⟩
  · rename_i q
    have q2 : (relS scope X.env.scope).names.lookup x = some .cell := lookup_relS_keep (by decide) q
    refine ⟨c.nd, by rw [← h1, ← c.N], .inr (by rw [hsc]; exact q2), .inl ?_⟩
    show (scope.names.lookup x == some .cell) = true
    rw [q]
    rfl
  · cases h2
theorem noSet_of {e : Expr} (h : noSet e = true) (env : Env) : ∀ x, foldedSetIterable e env x = pure x := by
  intro x
  cases e <;> first | rfl | (simp [noSet] at h; done)
theorem isTup_of {e : Expr} (h : isTup e = true) : ∃ es n p, e = .Tuple es n p := by
  cases e <;> first | (simp [isTup] at h; done) | exact ⟨_, _, _, rfl⟩
theorem la_star {cs : CEs} {es : List Expr} (h : chkL T sc cs es = true) : es.all noStar = true := by
  induction es generalizing cs with
  | nil => rfl
  | cons e es ih =>
    cases cs with
    | nil => simp [chkL] at h
    | cons c cs =>
      simp only [chkL, Bool.and_eq_true] at h
      simp only [List.all_cons, Bool.and_eq_true]
      exact ⟨h.1.1, ih h.2⟩
theorem as_star {cs : CEs} {io : List Bool} {es : List Expr} (h : chkA T sc cs io es = true) : es.all noStar = true := by
  induction es generalizing cs io with
  | nil => rfl
  | cons e es ih =>
    cases cs with
    | nil => cases io <;> simp [chkA] at h
    | cons c cs => cases io with
      | nil => simp [chkA] at h
      | cons b io =>
        simp only [chkA, Bool.and_eq_true] at h
        simp only [List.all_cons, Bool.and_eq_true]
        exact ⟨h.1.1, ih h.2⟩
end
end Ev

set_option Elab.async false
set_option linter.all false
set_option maxRecDepth 100000
set_option maxHeartbeats 8000000
set_option autoImplicit false
/-! Ev19: expressions, all at once. -/
namespace Ev
open PySem PySem.Spec PyProof.Rows L2

section
variable {P : Kx} {T : Tab}
theorem un_of {X : Cx} (h : Rm P X) : X.A.units + 62 < cLine := by
  have := h.un
  omega
theorem pw_of {X : Cx} {op : BoolOp} {es : List Expr} {p : Pos} {t : TT} (h : PT X (.BoolOp op es p) t) : PW X (.BoolOp op es p) t := by
  refine ⟨fun wh pins s σ H Q I hh => ?_⟩
  have e : isTrue (.BoolOp op es p) X.env wh = isTrue (.BoolOp op es p) X.env (eval (.BoolOp op es p) X.env) := by
    cases op <;> cases es <;> rfl
  rw [e]
  exact h.run pins s σ H Q I hh
end
mutual
theorem sE {P : Kx} {T : Tab} : ∀ (c : CE) {b : Bool} {e : Expr} {G : Gl} {W : WX} {X : Cx} {sc : Scope}, Cn P G T W X sc → chkE T sc b c e = true → PB P G W X b c e
  | .var i, b, e, G, W, X, sc, cn, h => by
    simp only [chkE] at h
    split at h
    · obtain ⟨h1, h2, h3, h4⟩ := nm_of cn h
      exact ⟨fun _ => e_var h1 h2 h3 h4, fun _ => t_of cn.hK rfl rfl (o_var h1 h2 h3 h4)⟩
    · cases h
  | .cst d, b, e, G, W, X, sc, cn, h => by
    simp only [chkE] at h
    split at h
    · exact PB.of cn.hK rfl (fun _ q => nomatch q) rfl (e_cst (cst_of h))
    · cases h
  | .glob g, b, e, G, W, X, sc, cn, h => by
    simp only [chkE] at h
    split at h
    · simp only [Bool.and_eq_true] at h
      obtain ⟨v, u, d, h1, h2, h3, h4⟩ := cn.gl _ _ (by simpa using h.1.2)
      exact PB.of cn.hK rfl (fun _ q => nomatch q) rfl (e_glob (gl_of cn h.1.1) h1 h2 h3 (okNm_of h.2).1 h4)
    · cases h
  | .neg a, b, e, G, W, X, sc, cn, h => by
    simp only [chkE] at h
    split at h
    · exact PB.of cn.hK rfl (fun _ q => nomatch q) rfl (e_neg ((sE a cn h).1 rfl))
    · cases h
  | .not a, b, e, G, W, X, sc, cn, h => by
    simp only [chkE] at h
    split at h
    · cases b with
      | true => exact ⟨fun q => (nomatch q), fun _ => t_not ((sE a cn h).2 rfl)⟩
      | false => exact ⟨fun _ => e_not cn.hK (po_of cn h ((sE a cn h).1 rfl)), fun q => nomatch q⟩
    · cases h
  | .and a c, b, e, G, W, X, sc, cn, h => by
    simp only [chkE] at h
    split at h
    · rename_i x y ys p
      simp only [Bool.and_eq_true] at h
      obtain ⟨h1, h2⟩ := h
      cases ys with
      | nil =>
        simp only [List.isEmpty_nil, if_true] at h2
        cases b with
        | true => exact ⟨fun q => (nomatch q), fun _ => (w_and ((sE a cn h1).2 rfl) (w_and1 ((sE c cn h2).2 rfl))).pt⟩
        | false => exact ⟨fun _ => e_and ((sE a cn h1).1 rfl) (pe_one ((sE c cn h2).1 rfl)), fun q => nomatch q⟩
      | cons z zs =>
        simp only [List.isEmpty_cons, Bool.false_eq_true, if_false] at h2
        cases b with
        | true => exact ⟨fun q => (nomatch q), fun _ => (w_and ((sE a cn h1).2 rfl) (pw_of ((sE c cn h2).2 rfl))).pt⟩
        | false => exact ⟨fun _ => e_and ((sE a cn h1).1 rfl) ((sE c cn h2).1 rfl), fun q => nomatch q⟩
    · cases h
  | .or a c, b, e, G, W, X, sc, cn, h => by
    simp only [chkE] at h
    split at h
    · rename_i x y ys p
      simp only [Bool.and_eq_true] at h
      obtain ⟨h1, h2⟩ := h
      cases ys with
      | nil =>
        simp only [List.isEmpty_nil, if_true] at h2
        cases b with
        | true => exact ⟨fun q => (nomatch q), fun _ => (w_or ((sE a cn h1).2 rfl) (pw_or1 ((sE c cn h2).2 rfl))).pt⟩
        | false => exact ⟨fun _ => e_or ((sE a cn h1).1 rfl) (pe_one ((sE c cn h2).1 rfl)), fun q => nomatch q⟩
      | cons z zs =>
        simp only [List.isEmpty_cons, Bool.false_eq_true, if_false] at h2
        cases b with
        | true => exact ⟨fun q => (nomatch q), fun _ => (w_or ((sE a cn h1).2 rfl) (pw_of ((sE c cn h2).2 rfl))).pt⟩
        | false => exact ⟨fun _ => e_or ((sE a cn h1).1 rfl) ((sE c cn h2).1 rfl), fun q => nomatch q⟩
    · cases h
  | .ife c a d, b, e, G, W, X, sc, cn, h => by
    simp only [chkE] at h
    split at h
    · simp only [Bool.and_eq_true, Bool.not_eq_true'] at h
      obtain ⟨⟨⟨h0, h1⟩, h2⟩, h3⟩ := h
      subst h0
      exact ⟨fun _ => e_ife ((sE c cn h1).2 rfl) ((sE a cn h2).1 rfl) ((sE d cn h3).1 rfl), fun q => nomatch q⟩
    · cases h
  | .bin o a c, b, e, G, W, X, sc, cn, h => by
    simp only [chkE] at h
    split at h
    · simp only [Bool.and_eq_true, opEq, decide_eq_true_eq] at h
      obtain ⟨⟨rfl, h1⟩, h2⟩ := h
      exact PB.of cn.hK rfl (fun _ q => nomatch q) rfl (e_bin cn.hK (po_of cn h1 ((sE a cn h1).1 rfl)) (po_of cn h2 ((sE c cn h2).1 rfl)))
    · cases h
  | .cmp o a c, b, e, G, W, X, sc, cn, h => by
    simp only [chkE] at h
    split at h
    · simp only [Bool.and_eq_true, cmEq, decide_eq_true_eq, Bool.not_eq_true'] at h
      obtain ⟨⟨⟨rfl, h1⟩, h2⟩, h3⟩ := h
      have q1 := po_of cn h1 ((sE a cn h1).1 rfl)
      have q2 := po_of cn h2 ((sE c cn h2).1 rfl)
      exact ⟨fun _ => e_cmp cn.hK (un_of cn.toRm) q1 q2 h3, fun _ => t_cmp cn.hK (un_of cn.toRm) q1 q2 h3⟩
    · cases h
  | .chain o p a c d, b, e, G, W, X, sc, cn, h => by
    simp only [chkE] at h
    split at h
    · simp only [Bool.and_eq_true, cmEq, decide_eq_true_eq, Bool.not_eq_true'] at h
      obtain ⟨⟨⟨⟨⟨rfl, rfl⟩, h1⟩, h2⟩, h3⟩, h4⟩ := h
      have q1 := po_of cn h1 ((sE a cn h1).1 rfl)
      have q2 := po_of cn h2 ((sE c cn h2).1 rfl)
      have q3 := po_of cn h3 ((sE d cn h3).1 rfl)
      exact ⟨fun _ => e_chain cn.hK (un_of cn.toRm) q1 q2 q3 h4, fun _ => t_chain cn.hK (un_of cn.toRm) q1 q2 q3 h4⟩
    · cases h
  | .tup es, b, e, G, W, X, sc, cn, h => by
    simp only [chkE] at h
    split at h
    · exact PB.of cn.hK rfl (fun _ q => nomatch q) rfl (e_tup (sL es cn h).1)
    · cases h
  | .lst es, b, e, G, W, X, sc, cn, h => by
    simp only [chkE] at h
    split at h
    · exact PB.of cn.hK rfl (fun _ q => nomatch q) rfl (e_lst (sL es cn h).1)
    · cases h
  | .dct, b, e, G, W, X, sc, cn, h => by
    simp only [chkE] at h
    split at h
    · exact PB.of cn.hK rfl (fun _ q => nomatch q) rfl e_dct
    · cases h
  | .dct1 k v, b, e, G, W, X, sc, cn, h => by simp [chkE] at h
  | .mov i, b, e, G, W, X, sc, cn, h => by simp [chkE] at h
  | .comp t it cs f, b, e, G, W, X, sc, cn, h => by
    simp only [chkE] at h
    split at h
    · rename_i elt tg iter ifs scope pos
      simp only [Bool.and_eq_true, decide_eq_true_eq] at h
      obtain ⟨⟨⟨⟨⟨⟨h1, h2⟩, h3⟩, h4⟩, h5⟩, h6⟩, h7⟩ := h
      obtain ⟨g, gs, hg⟩ := tg_of (P := P) h5
      have ok : BlkOk X.N X.env.scope scope (ownOf tg t) := by
        rw [cn.N, cn.scope]
        exact blkOk_by h3
      refine PB.of cn.hK rfl (fun _ q => nomatch q) rfl (e_comp cn.calm cn.nd (sI it cn h1) ok h4 gs (fun s H C cl fp => ?_) (fun s H C cl fp => ?_) (fun s H C cl fp => ?_) (noSet_of h2 _))
      · exact hg (X := X.blk s H scope (compEnvC scope cl C X.env) fp) cn.hK cn.calm (blk_nm cn s H C cl fp)
      · exact sC cs (cn.blk scope s H C cl fp) h6
      · exact (sE f (cn.blk scope s H C cl fp) h7).1 rfl
    · cases h
  | .ix a c, b, e, G, W, X, sc, cn, h => by
    simp only [chkE] at h
    split at h
    · simp only [Bool.and_eq_true] at h
      obtain ⟨⟨h0, h1⟩, h2⟩ := h
      exact PB.of cn.hK rfl (fun _ q => nomatch q) rfl (e_ix cn.hK (by have := cn.un; omega) h0 (po_of cn h1 ((sE a cn h1).1 rfl)) (po_of cn h2 ((sE c cn h2).1 rfl)))
    · cases h
  | .sl a lo hi, b, e, G, W, X, sc, cn, h => by
    simp only [chkE] at h
    split at h
    · simp only [Bool.and_eq_true] at h
      obtain ⟨⟨h1, h2⟩, h3⟩ := h
      exact PB.of cn.hK rfl (fun _ q => nomatch q) rfl (e_sl cn.hK (po_of cn h1 ((sE a cn h1).1 rfl)) (sP lo cn h2) (sP hi cn h3))
    · cases h
  | .rev a, b, e, G, W, X, sc, cn, h => by simp [chkE] at h
  | .stp a lo st, b, e, G, W, X, sc, cn, h => by simp [chkE] at h
  | .call f as, b, e, G, W, X, sc, cn, h => by
    simp only [chkE] at h
    split at h
    · rename_i x p es pos
      simp only [Bool.and_eq_true, List.any_eq_true, decide_eq_true_eq] at h
      obtain ⟨⟨h1, h2⟩, ⟨fi, fx, io⟩, hq, ⟨rfl, rfl⟩, h3⟩ := h
      obtain ⟨fe, k, fa, fd, ps, g1, g2, g3, g4, g5, g6, g7⟩ := (cn.fn _ _ _ hq).ex
      have st := as_star h3
      have ha := sA as cn h3
      subst g2
      refine PB.of cn.hK rfl (fun _ q => nomatch q) rfl ?_
      cases es with
      | nil =>
        cases as with
        | nil =>
          have hio : fe.io = [] := by
            cases hfe : fe.io with
            | nil => rfl
            | cons _ _ => rw [hfe] at h3; simp [chkA] at h3
          exact e_call0 g1 hio cn.tk g3 g4 cn.gd (gl_of cn h1) g5 g6 g7 (okNm_of h2).1
        | cons _ _ =>
          cases hfe : fe.io <;> rw [hfe] at h3 <;> simp [chkA] at h3
      | cons y ys =>
        simp only [List.all_cons, Bool.and_eq_true] at st
        exact e_call g1 cn.tk g3 g4 cn.gd (gl_of cn h1) g5 g6 g7 ha (okNm_of h2).1 st.1 st.2
    · cases h
  | .bi k as, b, e, G, W, X, sc, cn, h => by
    simp only [chkE] at h
    split at h
    · simp only [Bool.and_eq_true, decide_eq_true_eq] at h
      obtain ⟨⟨⟨⟨rfl, h1⟩, h2⟩, h3⟩, h4⟩ := h
      have st := la_star h4
      simp only [List.all_cons, Bool.and_eq_true] at st
      exact PB.of cn.hK rfl (fun _ q => nomatch q) rfl (e_bi cn.toRm h1 (gl_of cn h2) (bl_of cn h3) st.1 st.2 (sL as cn h4).2)
    · cases h
  | .bikey a, b, e, G, W, X, sc, cn, h => by simp [chkE] at h
  | .isi a t, b, e, G, W, X, sc, cn, h => by
    simp only [chkE] at h
    split at h
    · simp only [Bool.and_eq_true, decide_eq_true_eq] at h
      obtain ⟨⟨⟨⟨⟨⟨⟨⟨rfl, h1⟩, h2⟩, h3⟩, h4⟩, h5⟩, h6⟩, h7⟩, h8⟩ := h
      exact PB.of cn.hK rfl (fun _ q => nomatch q) rfl (e_isi cn.hK h2 h1 (gl_of cn h3) (bl_of cn h4) (gl_of cn h5) (bl_of cn h6) h7 (po_of cn h8 ((sE a cn h8).1 rfl)))
    · cases h
  | .meth m o as, b, e, G, W, X, sc, cn, h => by simp [chkE] at h
  | .mutv .append i (.cons c .nil), b, e, G, W, X, sc, cn, h => by
    simp only [chkE] at h
    split at h
    · simp only [Bool.and_eq_true, decide_eq_true_eq] at h
      obtain ⟨⟨⟨⟨rfl, h1⟩, h2⟩, h3⟩, h4⟩ := h
      obtain ⟨n1, n2, n3, n4⟩ := nm_of cn h1
      exact PB.of cn.hK rfl (fun _ q => nomatch q) rfl (e_append cn.hK n1 n2 n3 n4 h2 h3 ((sE c cn h4).1 rfl))
    · cases h
  | .mutv m i .nil, b, e, G, W, X, sc, cn, h => by
    have h' : mutOk T sc m i e = true := by
      cases m <;> (simp only [chkE] at h; exact h)
    unfold mutOk at h'
    split at h'
    · simp only [Bool.and_eq_true, decide_eq_true_eq] at h'
      obtain ⟨⟨⟨rfl, h0⟩, h1⟩, h2⟩ := h'
      obtain ⟨n1, n2, n3, n4⟩ := nm_of cn h1
      exact PB.of cn.hK rfl (fun _ q => nomatch q) rfl (e_mut h0 cn.hK n1 n2 n3 n4 h2)
    · cases h'
  | .mutv .append i (.cons c (.cons d r)), b, e, G, W, X, sc, cn, h => by simp [chkE] at h
  | .mutv .reverse i (.cons c r), b, e, G, W, X, sc, cn, h => by simp [chkE] at h
  | .mutv .clear i (.cons c r), b, e, G, W, X, sc, cn, h => by simp [chkE] at h
  | .mutv .pop i (.cons c r), b, e, G, W, X, sc, cn, h => by simp [chkE] at h
theorem sL {P : Kx} {T : Tab} : ∀ (cs : CEs) {es : List Expr} {G : Gl} {W : WX} {X : Cx} {sc : Scope}, Cn P G T W X sc → chkL T sc cs es = true → PA X es (tLs P G W cs) ∧ PA X es (tOs P G W cs)
  | .nil, es, G, W, X, sc, cn, h => by
    cases es with
    | nil => exact ⟨ls_nil, os_nil⟩
    | cons _ _ => simp [chkL] at h
  | .cons c cs, es, G, W, X, sc, cn, h => by
    cases es with
    | nil => simp [chkL] at h
    | cons e es =>
      simp only [chkL, Bool.and_eq_true] at h
      have q := (sE c cn h.1.2).1 rfl
      have r := sL cs cn h.2
      exact ⟨ls_cons h.1.1 q r.1, os_cons h.1.1 (po_of cn h.1.2 q) r.2⟩
theorem sA {P : Kx} {T : Tab} : ∀ (cs : CEs) {io : List Bool} {es : List Expr} {G : Gl} {W : WX} {X : Cx} {sc : Scope}, Cn P G T W X sc → chkA T sc cs io es = true → PA X es (tAs P G W cs io)
  | .nil, io, es, G, W, X, sc, cn, h => by
    cases io <;> cases es <;> simp [chkA] at h
    exact as_nil
  | .cons c cs, io, es, G, W, X, sc, cn, h => by
    cases io with
    | nil => simp [chkA] at h
    | cons b io => cases es with
      | nil => simp [chkA] at h
      | cons e es =>
        simp only [chkA, Bool.and_eq_true] at h
        have q := (sE c cn h.1.2).1 rfl
        have r := sA cs cn h.2
        cases b with
        | false => exact as_sh h.1.1 q r
        | true =>
          by_cases hv : ∃ i, c = .var i
          · obtain ⟨i, rfl⟩ := hv
            have h1 := h.1.2
            simp only [chkE] at h1
            split at h1
            · obtain ⟨n1, n2, n3, n4⟩ := nm_of cn h1
              exact as_sl n1 n2 n3 n4 r
            · cases h1
          · exact as_tm (fun i e => hv ⟨i, e⟩) h.1.1 q r
theorem sP {P : Kx} {T : Tab} : ∀ (cs : CEs) {o : Option Expr} {G : Gl} {W : WX} {X : Cx} {sc : Scope}, Cn P G T W X sc → chkP T sc cs o = true → PO X o (tP P G W cs)
  | .nil, o, G, W, X, sc, cn, h => by
    cases o with
    | none => exact p_none
    | some _ => simp [chkP] at h
  | .cons c .nil, o, G, W, X, sc, cn, h => by
    cases o with
    | none => simp [chkP] at h
    | some e =>
      simp only [chkP] at h
      exact p_some ((sE c cn h).1 rfl)
  | .cons c (.cons d r), o, G, W, X, sc, cn, h => by cases o <;> simp [chkP] at h
theorem sC {P : Kx} {T : Tab} : ∀ (cs : CEs) {es : List Expr} {G : Gl} {W : WX} {X : Cx} {sc : Scope}, Cn P G T W X sc → chkC T sc cs es = true → PTs X es (tC P G W cs)
  | .nil, es, G, W, X, sc, cn, h => by
    cases es with
    | nil => exact c_nil
    | cons _ _ => simp [chkC] at h
  | .cons c .nil, es, G, W, X, sc, cn, h => by
    cases es with
    | nil => simp [chkC] at h
    | cons e es => cases es with
      | nil =>
        simp only [chkC] at h
        exact c_one ((sE c cn h).2 rfl)
      | cons _ _ => simp [chkC] at h
  | .cons c (.cons d r), es, G, W, X, sc, cn, h => by
    cases es with
    | nil => simp [chkC] at h
    | cons e es => cases es <;> simp [chkC] at h
theorem sI {P : Kx} {T : Tab} : ∀ (c : CI) {tg e : Expr} {G : Gl} {W : WX} {X : Cx} {sc : Scope}, Cn P G T W X sc → chkI T sc (isTup tg) c e = true → PI X tg e (tI P G W c)
  | .seq a, tg, e, G, W, X, sc, cn, h => by
    simp only [chkI] at h
    exact i_seq cn.hK (po_of cn h ((sE a cn h).1 rfl))
  | .range1 a, tg, e, G, W, X, sc, cn, h => by
    simp only [chkI] at h
    split at h
    · simp only [Bool.and_eq_true, decide_eq_true_eq] at h
      obtain ⟨⟨⟨⟨rfl, h1⟩, h2⟩, h3⟩, h4⟩ := h
      exact i_range1 (gl_of cn h1) (bl_of cn h2) h3 ((sE a cn h4).1 rfl)
    · cases h
  | .range2 a c, tg, e, G, W, X, sc, cn, h => by
    simp only [chkI] at h
    split at h
    · simp only [Bool.and_eq_true, decide_eq_true_eq] at h
      obtain ⟨⟨⟨⟨⟨⟨rfl, h1⟩, h2⟩, h3⟩, h4⟩, h5⟩, h6⟩ := h
      exact i_range2 (gl_of cn h1) (bl_of cn h2) h3 h4 ((sE a cn h5).1 rfl) ((sE c cn h6).1 rfl)
    · cases h
  | .zip a c, tg, e, G, W, X, sc, cn, h => by
    simp only [chkI] at h
    split at h
    · simp only [Bool.and_eq_true, decide_eq_true_eq] at h
      obtain ⟨⟨⟨⟨⟨⟨⟨h0, rfl⟩, h1⟩, h2⟩, h3⟩, h4⟩, h5⟩, h6⟩ := h
      obtain ⟨es, n, p, rfl⟩ := isTup_of h0
      exact i_zip cn.hK (gl_of cn h1) (bl_of cn h2) h3 h4 (po_of cn h5 ((sE a cn h5).1 rfl)) (po_of cn h6 ((sE c cn h6).1 rfl))
    · cases h
  | .enum a, tg, e, G, W, X, sc, cn, h => by
    simp only [chkI] at h
    split at h
    · simp only [Bool.and_eq_true, decide_eq_true_eq] at h
      obtain ⟨⟨⟨⟨⟨h0, rfl⟩, h1⟩, h2⟩, h3⟩, h4⟩ := h
      obtain ⟨es, n, p, rfl⟩ := isTup_of h0
      exact i_enum cn.hK (gl_of cn h1) (bl_of cn h2) h3 (po_of cn h4 ((sE a cn h4).1 rfl))
    · cases h
  | .items a, tg, e, G, W, X, sc, cn, h => by simp [chkI] at h
end
end Ev

set_option Elab.async false
set_option linter.all false
set_option maxRecDepth 100000
set_option maxHeartbeats 8000000
set_option autoImplicit false
/-! Ev20: the look at statements; a def whose text it lets by does what the evaluator says. -/
namespace Ev
open PySem PySem.Spec PyProof.Rows L2

/-- the list of a comprehension is stored ahead of the block's end -/
def lcSwap (sc scope : Scope) (y : Str) (py : Pos) (v : Expr) : Bool :=
  (match sc.names.lookup y with
  | some .local => true
  | _ => false) && py.line == v.pos.line && !(scope.names.any fun (n, k) => n == y && (k == .local || k == .cell))
def nmL (T : Tab) (sc : Scope) (i : Nat) (x : Str) : Bool := decide (T.N[i]? = some x) && isLoc sc x
mutual
def chkS (T : Tab) (sc : Scope) : CS → Stmt → Bool
  | .set t c, s => match s with
    | .Assign [.Name y py] v _ => chkTg (nmL T sc) t (.Name y py) && chkE T sc false c v && (match v with
      | .ListComp _ [_] scope _ => true
      | v => noComp v)
    | .Assign [.Tuple es n p] v _ => chkTg (nmL T sc) t (.Tuple es n p) && chkE T sc false c v && !isTup v
    | _ => false
  | .setix i k c, s => match s with
    | .Assign [.Subscript (.Name x _) kx _] v _ => isNm T sc i x && noSlice kx && chkE T sc false k kx && chkE T sc false c v
    | _ => false
  | .expr c, s => match s with
    | .Expr v _ => noComp v && chkE T sc false c v
    | _ => false
  | .ife c a b, s => match s with
    | .If x ys zs _ => chkE T sc true c x && chkBs T sc a ys && chkBs T sc b zs
    | _ => false
  | .loop t it b, s => match s with
    | .For tg iter body [] _ => chkTg (nmL T sc) t tg && chkI T sc (isTup tg) it iter && noSet iter && chkBs T sc b body
    | _ => false
  | .whl n c b, s => match s with
    | .While x body [] _ => chkE T sc true c x && chkBs T sc b body
    | _ => false
  | .ret c, s => match s with
    | .Return (some v) _ => chkE T sc false c v
    | _ => false
  | .retn, s => match s with
    | .Return none _ => true
    | _ => false
  | .raise c, s => match s with
    | .Raise (some (.Call (.Name x _) [.Constant (.str _) _ _] [] _)) none _ => T.cl.contains (c, x) && isGl sc x && okNm x
    | _ => false
  | .pass, s => match s with
    | .Pass _ => true
    | .Expr (.Constant (.str _) _ _) _ => true
    | _ => false
  | _, _ => false
def chkBs (T : Tab) (sc : Scope) : CSs → List Stmt → Bool
  | .nil, [] => true
  | .cons c r, s :: ss => chkS T sc c s && chkBs T sc r ss
  | _, _ => false
end
/-- where a statement stands -/
structure Cs (P : Kx) (G : Gl) (T : Tab) (W : WX) (X : Cx) (sc : Scope) : Prop extends Cn P G T W X sc where
  own : PassesOwn (model X.prog X.w) X.A X.env X.xe
  kind : sc.kind = .function
  fnT : ∀ x, X.fn x = true
  cl : ∀ c x, (c, x) ∈ T.cl → L2.Gl X x → okNm x = true → ∀ m j p p2 pos, PMk X (.Call (.Name x p) [.Constant (.str m) j p2] [] pos) fun _ H Q => Q (.ref (P.cl c)) none H
section
variable {P : Kx} {T : Tab} {G : Gl} {W : WX} {X : Cx} {sc : Scope}
theorem Cs.prot (c : Cs P G T W X sc) (is : List Nat) : Cs P (G.prot is) T W X sc := ⟨c.toCn.prot is, c.own, c.kind, c.fnT, c.cl⟩
theorem nmS_of (c : Cs P G T W X sc) (i : Nat) (x : Str) (h : nmL T sc i x = true) : NmS X i x := by
  unfold nmL at h
  simp only [Bool.and_eq_true, decide_eq_true_eq] at h
  obtain ⟨h1, h2⟩ := h
  refine ⟨c.nd, by rw [c.N]; exact h1, ?_, .inl (c.fnT x)⟩
  rw [c.scope]
  unfold isLoc at h2
  split at h2
  · rename_i q; exact .inl q
  · rename_i q; exact .inr q
  · cases h2
theorem swapN {v : Expr} (h : noComp v = true) (t : Option Expr) (l : Nat) (env : Env) : swapsWith v t l env = pure false := by
  cases v <;> first | rfl | (simp [noComp] at h; done)
theorem swapL {elt : Expr} {g : List Comprehension} {scope : Scope} {p py : Pos} {y : Str} {l : Nat} {env : Env} (hk : env.scope.kind = .function) :
    swapsWith (.ListComp elt g scope p) (some (.Name y py)) l env = pure (lcSwap env.scope scope y py (.ListComp elt g scope p)) := by
  unfold swapsWith lcSwap
  have e1 : (env.blockKind == .function) = true := by
    unfold Env.blockKind
    rw [hk]
    rfl
  simp only [e1, Bool.true_and]
  have e2 : (env.kindOf y == some NameKind.local) = (match env.scope.names.lookup y with
    | some .local => true
    | _ => false) := by
    unfold Env.kindOf
    cases env.scope.names.lookup y with
    | none => rfl
    | some k => cases k <;> rfl
  rw [e2]
theorem tupNo {es : List Expr} {n : Nat} {p : Pos} {v : Expr} (h : isTup v = false) (env : Env) : swappedStores [.Tuple es n p] v env = pure none := by
  cases v <;> first | rfl | (simp [isTup] at h; done)
theorem tupSw {es : List Expr} {n : Nat} {p : Pos} {v : Expr} (l : Nat) (env : Env) : swapsWithSole [.Tuple es n p] v l env = pure false := by
  cases v <;> rfl
theorem chk_lc {c : CE} {b : Bool} {elt : Expr} {g : List Comprehension} {scope : Scope} {p : Pos} (h : chkE T sc b c (.ListComp elt g scope p) = true) : ∃ t it cs f, c = .comp t it cs f := by
  cases c <;> first | exact ⟨_, _, _, _, rfl⟩ | (simp [chkE] at h; done) | skip
  rename_i m i as
  cases as with
  | nil => cases m <;> simp [chkE, mutOk] at h
  | cons c r => cases m <;> cases r <;> simp [chkE] at h
end
mutual
theorem okS {P : Kx} {T : Tab} : ∀ (c : CS) {s : Stmt} {G : Gl} {W : WX} {X : Cx} {sc : Scope}, Cs P G T W X sc → chkS T sc c s = true → PS X s (tS P G W c)
  | .set t c, s, G, W, X, sc, cn, h => by
    simp only [chkS] at h
    split at h
    · rename_i y py v pos
      simp only [Bool.and_eq_true] at h
      obtain ⟨⟨h1, h2⟩, h3⟩ := h
      have hv := (sE c cn.toCn h2).1 rfl
      cases t with
      | many is => simp [chkTg] at h1
      | one i =>
        simp only [chkTg] at h1
        have n := nmS_of cn _ _ h1
        by_cases hl : ∃ elt g scope p, v = .ListComp elt g scope p
        · obtain ⟨elt, g, scope, p, rfl⟩ := hl
          have sw := swapL (elt := elt) (g := g) (scope := scope) (p := p) (py := py) (y := y) (l := pos.line) (env := X.env) (by rw [cn.scope]; exact cn.kind)
          cases hsw : lcSwap X.env.scope scope y py (.ListComp elt g scope p) with
          | false =>
            rw [hsw] at sw
            exact s_set gs_one (ps_set n.nd n.ix n.loc hv sw n.fn)
          | true =>
            rw [hsw] at sw
            have hy : X.env.scope.names.lookup y = some .local := by
              unfold lcSwap at hsw
              simp only [Bool.and_eq_true] at hsw
              have q := hsw.1.1
              split at q
              · assumption
              · cases q
            -- the parts of the comprehension
            obtain ⟨t, it, cs, f, rfl⟩ := chk_lc h2
            simp only [chkE] at h2
            split at h2
            · rename_i elt tg iter ifs scope pos heq
              cases heq
              simp only [Bool.and_eq_true, decide_eq_true_eq] at h2
              obtain ⟨⟨⟨⟨⟨⟨k1, k2⟩, k3⟩, k4⟩, k5⟩, k6⟩, k7⟩ := h2
              obtain ⟨g, gs, hg⟩ := tg_of (P := P) k5
              have ok : BlkOk X.N X.env.scope scope (ownOf tg t) := by
                rw [cn.N, cn.scope]
                exact blkOk_by k3
              have q := ps_setLc (spos := _) (py := py) cn.calm n.nd n.ix hy sw (sI it cn.toCn k1 (G := G)) ok (fun s H C cl fp => hg (X := X.blk s H scope (compEnvC scope cl C X.env) fp) cn.hK cn.calm (blk_nm cn.toCn s H C cl fp)) (fun s H C cl fp => sC cs (cn.toCn.blk scope s H C cl fp) k6) (fun s H C cl fp => (sE f (cn.toCn.blk scope s H C cl fp) k7).1 rfl) (noSet_of k2 _)
              rw [k4] at q
              exact s_setLc gs q
            · cases h2
        · have hn : noComp v = true := by
            cases v <;> first | (simpa using h3) | exact absurd ⟨_, _, _, _, rfl⟩ hl
          exact s_set gs_one (ps_set n.nd n.ix n.loc hv (swapN hn _ _ _) n.fn)
    · simp only [Bool.and_eq_true, Bool.not_eq_true'] at h
      obtain ⟨⟨h1, h2⟩, h3⟩ := h
      obtain ⟨g, gs, hg⟩ := tg_of (P := P) h1
      exact s_set gs (ps_asg ((sE c cn.toCn h2).1 rfl) (hg cn.hK cn.calm (nmS_of cn)) (tupSw _ _) (tupNo h3 _) rfl)
    · cases h
  | .par is es, s, G, W, X, sc, cn, h => by simp [chkS] at h
  | .setix i k c, s, G, W, X, sc, cn, h => by
    simp only [chkS] at h
    split at h
    · simp only [Bool.and_eq_true] at h
      obtain ⟨⟨⟨h1, h2⟩, h3⟩, h4⟩ := h
      obtain ⟨n1, n2, n3, n4⟩ := nm_of cn.toCn h1
      exact s_setix n1 n2 n3 n4 h2 ((sE k cn.toCn h3).1 rfl) ((sE c cn.toCn h4).1 rfl)
    · cases h
  | .expr c, s, G, W, X, sc, cn, h => by
    simp only [chkS] at h
    split at h
    · simp only [Bool.and_eq_true] at h
      exact s_expr ((sE c cn.toCn h.2).1 rfl) (swapN h.1 _ _ _)
    · cases h
  | .ife c a b, s, G, W, X, sc, cn, h => by
    simp only [chkS] at h
    split at h
    · simp only [Bool.and_eq_true] at h
      exact s_if ((sE c cn.toCn h.1.1).2 rfl) (okB a cn h.1.2) (okB b cn h.2)
    · cases h
  | .loop t it b, s, G, W, X, sc, cn, h => by
    simp only [chkS] at h
    split at h
    · simp only [Bool.and_eq_true] at h
      obtain ⟨⟨⟨h1, h2⟩, h3⟩, h4⟩ := h
      obtain ⟨g, gs, hg⟩ := tg_of (P := P) h1
      exact s_for cn.own cn.calm (sI it cn.toCn h2) gs (hg cn.hK cn.calm (nmS_of cn)) (fun is => okB b (cn.prot is) h4) (noSet_of h3 _)
    · cases h
  | .whl n c b, s, G, W, X, sc, cn, h => by
    simp only [chkS] at h
    split at h
    · simp only [Bool.and_eq_true] at h
      exact s_while cn.own ((sE c cn.toCn h.1).2 rfl) (okB b cn h.2)
    · cases h
  | .ret c, s, G, W, X, sc, cn, h => by
    simp only [chkS] at h
    split at h
    · exact s_ret ((sE c cn.toCn h).1 rfl)
    · cases h
  | .retn, s, G, W, X, sc, cn, h => by
    simp only [chkS] at h
    split at h
    · exact s_retn
    · cases h
  | .raise c, s, G, W, X, sc, cn, h => by
    simp only [chkS] at h
    split at h
    · simp only [Bool.and_eq_true] at h
      exact s_raise (ps_raise cn.calm cn.tk (cn.cl _ _ (by simpa using h.1.1) (gl_of cn.toCn h.1.2) h.2 _ _ _ _ _))
    · cases h
  | .pass, s, G, W, X, sc, cn, h => by
    simp only [chkS] at h
    split at h
    · exact s_pass
    · refine ps_doc.weak fun d σ H ⟨F, I, S, m, h⟩ => ?_
      simp only [evS] at h
      exact h σ I H .refl .refl m
    · cases h
  | .tryx b c x v, s, G, W, X, sc, cn, h => by simp [chkS] at h
  | .tryo b c x, s, G, W, X, sc, cn, h => by simp [chkS] at h
theorem okB {P : Kx} {T : Tab} : ∀ (c : CSs) {ss : List Stmt} {G : Gl} {W : WX} {X : Cx} {sc : Scope}, Cs P G T W X sc → chkBs T sc c ss = true → PSs X ss (tB P G W c)
  | .nil, ss, G, W, X, sc, cn, h => by
    cases ss with
    | nil => exact s_nil
    | cons _ _ => simp [chkBs] at h
  | .cons c r, ss, G, W, X, sc, cn, h => by
    cases ss with
    | nil => simp [chkBs] at h
    | cons s ss =>
      simp only [chkBs, Bool.and_eq_true] at h
      exact s_cons (okS c cn h.1) (okB r cn h.2)
end
end Ev

set_option Elab.async false
set_option linter.all false
set_option maxRecDepth 100000
set_option maxHeartbeats 8000000
set_option autoImplicit false
/-! Ev21: a def whose text the look lets by does what the evaluator says. -/
namespace Ev
open PySem PySem.Spec PyProof.Rows L2

/-- an exception class of the text -/
structure ClsX (P : Kx) (mg : Str → Option Value) (x : Str) (C : Addr) : Prop where
  ex : ∃ (B newId initId : String) (bmB : List Value), ExcBaseFacts B newId initId bmB ∧ PySem.W.excIn P.K C bmB newId = true
  mg : mg x = some (.ref C)
  kp : PySem.W.keepIn P.K (.ref C) = true
  sub : PySem.W.subIn P.K (.ref C) (.type "BaseException") = some true
  ty : PySem.W.typeIn P.K (.ref C) = some (.type "type")
/-- what the defs of a text may lean on -/
structure Wd (P : Kx) (pg : Program) (w : World) (mg : Str → Option Value) (base : Heap) (G : Gl) (T : Tab) (k : Nat) : Prop where
  blt : ∀ x ∈ T.bl, mg x = none
  gl : ∀ i x, (i, x) ∈ T.gl → ∃ v u d, mg x = some u ∧ RelV v u ∧ (∀ I, Rp P I v d) ∧ G.con i = some d
  fn : ∀ i x io, (i, x, io) ∈ T.fn → ∃ (fe : FE) (f : Addr) (fd : FuncData) (ps : List Str), G.fn i = some fe ∧ fe.io = io ∧ FnG pg w P.K mg base k f fd ps (spF P fe) ∧ mg x = some (.ref f) ∧ PySem.W.keepIn P.K (.ref f) = true ∧ Binds P.K fd ps []
  cl : ∀ c x, (c, x) ∈ T.cl → ClsX P mg x (P.cl c)
section
variable {P : Kx}
theorem pad_get {vs : List V} {N : List Str} {i : Nat} (h : i < vs.length) : (L2.start N vs)[i]? = (vs.map some)[i]? := by
  unfold L2.start
  rw [List.getElem?_append_left (by rw [List.length_map]; exact h)]
theorem Sm.pad {F : Addr → Prop} {I H : Hp} {vs : List V} {S : Sts} {N : List Str} {n : Nat} (m : Sm P F I H (vs.map some) S) (hn : n = N.length - vs.length) (hN : vs.length ≤ N.length) : Sm P F I H (L2.start N vs) (S ++ List.replicate n .no) := by
  have hl : S.length = vs.length := by rw [m.len, List.length_map]
  have low : ∀ {i : Nat} {s : Sl}, (S ++ List.replicate n Sl.no)[i]? = some s → s ≠ .no → S[i]? = some s ∧ (L2.start N vs)[i]? = (vs.map some)[i]? := fun {i s} h hs => by
    by_cases hi : i < S.length
    · rw [List.getElem?_append_left hi] at h
      exact ⟨h, pad_get (by omega)⟩
    · rw [List.getElem?_append_right (by omega)] at h
      have := List.mem_of_getElem? h
      exact absurd (List.eq_of_mem_replicate this) hs
  refine m.re ?_ (fun i d h => low h (fun q => by cases q)) fun i d ⟨s, h, o⟩ => ?_
  · unfold L2.start
    simp [hl, hn]
  · obtain ⟨h1, h2⟩ := low h (fun q => by subst q; cases o)
    exact ⟨h.trans h1.symm, h2⟩
theorem outs_get {S : Sts} : ∀ {io : List Bool} {k : Nat} {outs : List D}, outsOf S io k = some outs → (endS io outs).length = io.length ∧ ∀ {j : Nat} {s : Sl}, (endS io outs)[j]? = some s → s = .no ∨ ∃ d, s = .ow d ∧ S[k + j]? = some (.ow d) ∧ k + j ∈ ioSlots io k
  | [], k, outs, h => by
    refine ⟨by simp [endS], fun {j s} q => ?_⟩
    simp [endS] at q
  | false :: io, k, outs, h => by
    simp only [outsOf] at h
    obtain ⟨h1, h2⟩ := outs_get h
    refine ⟨by simp [endS, h1], fun {j s} q => ?_⟩
    cases j with
    | zero => simp [endS] at q; exact .inl q.symm
    | succ j =>
      rcases h2 (j := j) (s := s) (by simpa [endS] using q) with q | ⟨d, q1, q2, q3⟩
      · exact .inl q
      · refine .inr ⟨d, q1, by rw [← q2]; congr 1; omega, ?_⟩
        have : k + (j + 1) = k + 1 + j := by omega
        rw [this]
        simpa [ioSlots] using q3
  | true :: io, k, outs, h => by
    simp only [outsOf] at h
    split at h
    · rename_i d ds e1 e2
      cases h
      obtain ⟨h1, h2⟩ := outs_get e2
      refine ⟨by simp [endS, h1], fun {j s} q => ?_⟩
      cases j with
      | zero =>
        simp [endS] at q
        exact .inr ⟨d, q.symm, e1, by simp [ioSlots]⟩
      | succ j =>
        rcases h2 (j := j) (s := s) (by simpa [endS] using q) with q | ⟨d, q1, q2, q3⟩
        · exact .inl q
        · refine .inr ⟨d, q1, by rw [← q2]; congr 1; omega, ?_⟩
          have : k + (j + 1) = k + 1 + j := by omega
          rw [this]
          simp [ioSlots, q3]
    · cases h
theorem end_sm {F : Addr → Prop} {I H : Hp} {vs : List V} {N : List Str} {σ' : L2.St} {S' : Sts} {io : List Bool} {outs : List D} (hl : vs.length = io.length) (m : Sm P F I H σ' S') (pin : Pin (ioSlots io 0) (L2.start N vs) σ') (h : outsOf S' io 0 = some outs) :
    Sm P F I H (vs.map some) (endS io outs) ∧ ∀ x, OwnAt (vs.map some) (endS io outs) x → OwnAt σ' S' x := by
  obtain ⟨h1, h2⟩ := outs_get h
  have key : ∀ {i : Nat} {d : D}, ownS (endS io outs) i d → (endS io outs)[i]? = S'[i]? ∧ (vs.map some)[i]? = σ'[i]? := fun {i d} ⟨s, e, o⟩ => by
    rcases h2 e with q | ⟨d', rfl, q2, q3⟩
    · subst q; cases o
    · rw [Nat.zero_add] at q2 q3
      have hi : i < vs.length := by
        have := (List.getElem?_eq_some_iff.mp e).1
        omega
      exact ⟨e.trans q2.symm, by rw [pin i q3, pad_get hi]⟩
  refine ⟨m.re (by rw [h1, List.length_map, hl]) (fun i d e => ?_) (fun i d o => key o), fun x ⟨i, d, o, e⟩ => ?_⟩
  · rcases h2 e with q | ⟨d', q, _⟩
    · cases q
    · cases q
  · obtain ⟨k1, k2⟩ := key o
    obtain ⟨s, e2, o2⟩ := o
    exact ⟨i, d, ⟨s, by rw [← k1]; exact e2, o2⟩, by rw [← k2]; exact e⟩
theorem Sm.none {F : Addr → Prop} {I H : Hp} {σ : L2.St} {S : Sts} (m : Sm P F I H σ S) : Sm P F I H [] [] :=
  ⟨m.sub, m.frm, rfl, fun i d h => by simp at h, fun i d ⟨s, h, _⟩ => by simp at h, fun i j d e a ⟨s, h, _⟩ => by simp at h⟩
theorem end_ret {F : Addr → Prop} {I H : Hp} {vs : List V} {N : List Str} {σ' : L2.St} {S' : Sts} {c : CD} {d : Bool × D} {dd : D} {outs : List D} {v : V} (hl : vs.length = c.io.length) (m : Sm P F I H σ' S') (pin : Pin (ioSlots c.io 0) (L2.start N vs) σ') (tv : Tv P F I H σ' S' v d)
    (h : endR c d S' = .ret dd outs) : ∃ I', Ext F I H I' H ∧ Sm P F I' H (vs.map some) (endS c.io outs) ∧ Tv P F I' H (vs.map some) (endS c.io outs) v (c.fr, dd) := by
  unfold endR at h
  split at h
  · cases h
  · rename_i hf
    split at h
    · rename_i outs' ho
      cases h
      by_cases hc : c.fr = true
      · have hd : d.1 = true := by
          cases hd : d.1 with
          | true => rfl
          | false => rw [hc, hd] at hf; exact absurd rfl hf
        obtain ⟨q1, q2⟩ := end_sm hl m pin ho
        refine ⟨I, .refl, q1, ?_⟩
        unfold Tv at tv ⊢
        rw [if_pos hd] at tv
        rw [if_pos hc]
        obtain ⟨a, e, n, f, o, oc⟩ := tv
        exact ⟨a, e, n, f, fun z => o (q2 _ z), oc⟩
      · obtain ⟨I', m', x', r⟩ := tv.keep m
        obtain ⟨q1, q2⟩ := end_sm hl m' pin ho
        refine ⟨I', x', q1, ?_⟩
        unfold Tv
        rw [if_neg hc]
        exact r
    · cases h
theorem fn_sound {pg : Program} {w : World} {mg : Str → Option Value} {base : Heap} {G : Gl} {T : Tab} {k : Nat} {f : Addr} {x qual : Str} {st : Stmt} {fd : FuncData} {N ps : List Str} {c : CD} (wd : Wd P pg w mg base G T k) (Fn : Fun P.K x qual st f fd) (hS : C8.scC N ps (defScope st) = true)
    (hio : c.io.length = ps.length) (hsl : c.slots = N.length) (hps : ps.length ≤ N.length) (hc : chkBs { T with N := N } (defScope st) c.body (defBody st) = true) : FnG pg w P.K mg base (k + 1) f fd ps (spF P (feOf G c)) := by
  have S := C8.fnScope_by hS
  refine fng_of Fn S (fun vs H Q E ⟨F, I, ds, h1, _⟩ => by rw [h1]; exact hio) fun cd A outer s H vs Q E room hg ⟨F, I, ds, hl, hdl, m, hden⟩ => ?_
  have hl : vs.length = c.io.length := hl
  have hdl : ds.length = c.io.length := hdl
  have cn : Cs P ⟨G.con, G.fn, ioSlots c.io 0⟩ { T with N := N } (fun cls d _ H' => E cls d H') (cxOf (L2.CX pg w) pg w P.K mg base N qual (defScope st) f cd A outer s H E) (defScope st) :=
    { hK := rfl, calm := rfl, gd := hg, un := by have := room.un; show (A.deeper _).units + 100 < cLine; omega, scope := rfl, N := rfl, nd := S.nd, tk := takes_of rfl rfl rfl rfl, blt := wd.blt, gl := wd.gl,
      fn := fun i x io h => by
        obtain ⟨fe, f, fd, ps, q1, q2, q3, q4, q5, q6⟩ := wd.fn i x io h
        exact ⟨⟨fe, k, f, fd, ps, q1, q2, q3, room, q4, q5, q6⟩⟩,
      own := passes_of rfl, kind := S.kind, fnT := fun _ => rfl,
      cl := fun cc x h hgl hok m j p p2 pos => by
        obtain ⟨⟨B, n, i, b, e1, e2⟩, e3, e4, e5, e6⟩ := wd.cl cc x h
        exact pmk_own e1 e2 e3 e4 (raises_own e5 e6) hgl (okNm_of hok).1 }
  refine ⟨_, okB c.body cn hc, F, I, startS c.io ds ++ List.replicate (c.slots - ds.length) .no, m.pad (by rw [hsl, hdl, hl]) (by omega), ?_⟩
  have hd : (feOf G c).den ds = runD G c ds := rfl
  rw [hd] at hden
  unfold runD at hden
  rw [if_pos hdl] at hden
  generalize hr : evB ⟨G.con, G.fn, ioSlots c.io 0⟩ c.body (startS c.io ds ++ List.replicate (c.slots - ds.length) .no) = r at hden
  show PoS P F (ioSlots c.io 0) I H (L2.start N vs) _ _ _ _
  cases r with
  | nx S' =>
    intro σ' I' H' pin x' m'
    simp only [] at hden
    cases he : endR c (false, .none) S' with
    | ret dd outs =>
      rw [he] at hden
      obtain ⟨I2, x2, m2, tv⟩ := end_ret (N := N) hl m' pin (.of .non) he
      exact hden I2 H' .non (x'.trans x2) m2 tv
    | exc e => unfold endR at he; split at he <;> first | cases he | (split at he <;> cases he)
    | bad => rw [he] at hden; exact hden.elim
  | rt d S' =>
    intro σ' I' H' v pin x' m' tv
    simp only [] at hden
    cases he : endR c d S' with
    | ret dd outs =>
      rw [he] at hden
      obtain ⟨I2, x2, m2, tv⟩ := end_ret (N := N) hl m' pin tv he
      exact hden I2 H' v (x'.trans x2) m2 tv
    | exc e => unfold endR at he; split at he <;> first | cases he | (split at he <;> cases he)
    | bad => rw [he] at hden; exact hden.elim
  | ex e S' =>
    intro σ' I' H' pin x' m'
    exact hden I' H' x' m'.none
  | bad => exact hden.elim
end
end Ev

set_option Elab.async false
set_option linter.all false
set_option maxRecDepth 100000
set_option maxHeartbeats 8000000
set_option autoImplicit false
/-! Ev22: the law's own call; one def behind the other. -/
namespace Ev
open PySem PySem.Spec PyProof.Rows L2

section
variable {P : Kx} {pg : Program} {w : World} {mg mb : Str → Option Value} {base : Heap} {G : Gl} {T : Tab} {k : Nat}
/-- one more def -/
theorem Wd.step {f : Addr} {x : Str} {st : Stmt} {fd : FuncData} {N ps : List Str} {c : CD} {i : Nat} (wd : Wd P pg w mg base G T k) (Fn : Fun P.K x x st f fd) (hmg : mg x = some (.ref f)) (hb : Binds P.K fd ps []) (hnew : T.fn.all (fun q => !decide (q.1 = i)) = true)
    (hc : (C8.scC N ps (defScope st) && decide (c.io.length = ps.length) && decide (c.slots = N.length) && decide (ps.length ≤ N.length) && chkBs { T with N := N } (defScope st) c.body (defBody st)) = true) :
    Wd P pg w mg base (G.add i (feOf G c)) { T with fn := (i, x, c.io) :: T.fn } (k + 1) := by
  simp only [Bool.and_eq_true, decide_eq_true_eq] at hc
  obtain ⟨⟨⟨⟨h1, h2⟩, h3⟩, h4⟩, h5⟩ := hc
  have hf := fn_sound wd Fn h1 h2 h3 h4 h5
  refine ⟨wd.blt, wd.gl, fun j y io h => ?_, wd.cl⟩
  rcases List.mem_cons.mp h with e | h
  · cases e
    refine ⟨feOf G c, f, fd, ps, ?_, rfl, hf, hmg, Fn.kp, hb⟩
    show (if i = i then some (feOf G c) else G.fn i) = _
    rw [if_pos rfl]
  · have hj : j ≠ i := by
      have := List.all_eq_true.mp hnew _ h
      simpa using this
    obtain ⟨fe, f', fd', ps', q1, q2, q3, q4⟩ := wd.fn j y io h
    refine ⟨fe, f', fd', ps', ?_, q2, q3.mono (Nat.le_succ k), q4⟩
    show (if j = i then some (feOf G c) else G.fn j) = _
    rw [if_neg hj]
    exact q1
/-- the law at the heap behind the top -/
theorem law_at {K : PySem.W.Frag} {fa a : Addr} {fd : FuncData} {x : Str} {fe : FE} {s1 : Shared} {vs : List Value} {ns : List Int} (hK : P.K = K)
    (hin : K.In s1.heap) (hns : s1.heap.Ns mainGlobals mg) (hbn : s1.heap.Ns builtinsNs mb) (hbb : ∀ x : Str, x ≠ "__name__" → mb x = bootBuiltins x) (hlim : s1.heap.NoLimit) (hgen : s1.gens = #[])
    (ha : s1.heap.get? a = some { cls := .type "list", data := .seq vs.toArray }) (hi : IntsAre vs ns) (hl : ns.length ≤ szl) (hr : Room k callerA)
    (F : ∀ base : Heap, K.In base → base.Ns mainGlobals mg → FnG pg w K mg base k fa fd [x] (spF P fe)) (hbind : ∀ (s : Shared) (u : Value), BindsTo s fd ⟨[u], []⟩ [(x, u)])
    (hio : fe.io = [false]) (hfr : fe.fr = false) (hden : fe.den [scrD ns] = .ret (.bool true) []) :
    codeAny (model pg w) callerA (.call (.ref fa) ⟨[.ref a], []⟩) (fun r s' => r = .ok (.ret (.bool true)) ∧ OldK s1.heap s'.heap ∧ s'.os = s1.os ∧ AllBare s'.gens) s1 := by
  have rv := vals_ints hi
  have lv := hi.length
  have hls : ns.length ≤ sizeLine := le_szl hl
  -- the script as it is known to the law
  have main : ∀ (M : Hp), (∀ b, M b = none ∨ b = a ∧ K.lookup a = none ∧ M b = some (.frz { cls := .type "list", data := .seq vs.toArray } (.lst (ns.map V.int)))) → SqL K M a (ns.map V.int) →
      codeAny (model pg w) callerA (.call (.ref fa) ⟨[.ref a], []⟩) (fun r s' => r = .ok (.ret (.bool true)) ∧ OldK s1.heap s'.heap ∧ s'.os = s1.os ∧ AllBare s'.gens) s1 := by
    intro M hM hsq
    have hok : HOk pg w M s1.heap := fun b u e => by
      rcases hM b with q | ⟨rfl, _, q⟩
      · rw [q] at e; cases e
      · rw [q] at e
        cases e
        exact ⟨ha, by rw [List.length_map]; exact hls, vs, _, rv, ha⟩
    have dictN : ∀ {b : Addr} {o : Obj} {es : Array DictEntry} {n : Nat}, s1.heap.get? b = some o → o.data = .dict es n → M b = none := fun {b o es n} e d => by
      rcases hM b with q | ⟨rfl, _, _⟩
      · exact q
      · rw [ha] at e
        cases e
        cases d
    have nsH : ∀ {b : Addr} {m : Str → Option Value}, s1.heap.Ns b m → (hidT s1.heap M).Ns b m := fun {b m} ⟨o, es, n, e, d, q⟩ => ⟨o, es, n, hidT_get e (dictN e d), d, q⟩
    have inH : K.In (hidT s1.heap M) := fun b o e => hidT_get (hin b o e) (by
      rcases hM b with q | ⟨rfl, q, _⟩
      · exact q
      · rw [q] at e; cases e)
    obtain ⟨mc, c1, c2⟩ := hlim
    have e0 : Env0 pg w K mg (hidT s1.heap M) callerA [] s1 M :=
      { frames := rfl, mod := ⟨inH, nsH hns, ⟨mb, nsH hbn, hbb⟩, ⟨mc, nsH c1, c2⟩⟩, bs := fun b o e => of_hidT e, bsz := Nat.le_of_eq (hidT_size _ _), funs := trivial, frf := fun b hb => (by cases hb), hok := hok, bare := .of_eq hgen }
    have sm : Sm P (fun _ => False) M M [some (.ref a)] [.sh (scrD ns)] := by
      refine ⟨fun b o e => e, fun b f => f.elim, rfl, fun i d e => ?_, fun i d ⟨s, e, o⟩ => ?_, fun i j d e b ⟨s, q, o⟩ => ?_⟩
      · cases i with
        | zero => simp at e; subst e; exact ⟨_, rfl, .scr (by rw [hK]; exact hsq) hl⟩
        | succ i => simp at e
      · cases i with
        | zero => simp at e; subst e; cases o
        | succ i => simp at e
      · cases i with
        | zero => simp at q; subst q; cases o
        | succ i => simp at q
    have sp : spF P fe [.ref a] M (fun v _ => v = .bl true) fun _ _ _ => False := by
      refine ⟨fun _ => False, M, [scrD ns], by rw [hio]; rfl, by rw [hio]; rfl, by rw [hio]; exact sm, ?_⟩
      rw [hden]
      intro I' H' v _ _ tv
      rw [hfr] at tv
      exact tv.to.bl
    refine codeAny_mono ((F _ inH (nsH hns)).run callerA [] s1 M ⟨[.ref a], []⟩ [.ref a] [.ref a] _ _ hr rfl e0 (hbind s1 (.ref a)) (.cons rfl .nil) sp) fun r s' q => ?_
    cases r with
    | error e => exact (show False by obtain ⟨_, _, _, _, _, _, _, _, _, _, _, _, z⟩ := q; exact z).elim
    | ok flow =>
      cases flow with
      | next => exact q.elim
      | brk => exact q.elim
      | cont => exact q.elim
      | ret u =>
        obtain ⟨v, H', os, bare, un, hok', rel, hv⟩ := q
        have hv' : v = .bl true := hv
        subst hv'
        cases (show u = Value.bool true from rel)
        refine ⟨rfl, OldK.of_keep fun b o e => ?_, os, bare⟩
        rcases hM b with q | ⟨rfl, _, q⟩
        · exact un.keep b o e q (fun z => by cases z) (by simp)
        · have e1 := (hok' _ _ (un.frzs _ _ _ q)).1
          rw [ha] at e
          cases e
          exact e1
  cases hk : K.lookup a with
  | some o =>
    have e := hin a o hk
    rw [ha] at e
    cases e
    exact main (fun _ => none) (fun _ => .inl rfl) (.inr ⟨_, vs.toArray, _, hk, rfl, rfl, rfl, by rw [List.size_toArray, lv]; exact hls, by simpa using rv⟩)
  | none =>
    refine main (fun b => if b = a then some (.frz { cls := .type "list", data := .seq vs.toArray } (.lst (ns.map V.int))) else none) (fun b => ?_) (.inl (.inr ⟨_, if_pos rfl⟩))
    by_cases hb : b = a
    · exact .inr ⟨hb, hk, if_pos hb⟩
    · exact .inl (if_neg hb)
end
/-- what k_head leaves -/
theorem walk_in {l : PySem.W.OpenLaw} {n k : Nat} {q : Program} {loose : List Str} {XP : (Str → Option Value) → Heap → Prop} {YP : World → Heap → Prop} {d : DefRec} {K : Params → PySem.W.Frag} {cl : Params → Nat → Addr} {x : Str} {fe : Params → FE}
    (hn : l.most = some n) (hn2 : n ≤ szl) (hdf : d.params.defaults = []) (hr : Room k callerA) (hY : ∀ (w : World) (h : Heap), YP w h → (K w.params).In h)
    (F : ∀ (w : World) (mg : Str → Option Value) (fa : Addr) (h : Heap), (K w.params).In h → h.Ns mainGlobals mg → mg d.name = some (.ref fa) →
      ∃ fd : FuncData, (∀ (s : Shared) (u : Value), BindsTo s fd ⟨[u], []⟩ [(x, u)]) ∧ ∀ base : Heap, (K w.params).In base → base.Ns mainGlobals mg → FnG l.prog w (K w.params) mg base k fa fd [x] (spF ⟨K w.params, cl w.params⟩ (fe w.params)))
    (hden : ∀ pa, (fe pa).io = [false] ∧ (fe pa).fr = false ∧ ∀ ns : List Int, ns.length ≤ n → (fe pa).den [scrD ns] = .ret (.bool true) []) :
    PySem.W.WalkO q loose XP YP l.row.toRowW d [] (fun f vs => PySem.call f vs) := by
  refine Att.attach_call hn hdf fun w s0 s1 mg mb fa o pm cd doc a vs ns Gd Y _ _ _ hmg hobj hints hlen hg => ?_
  obtain ⟨fd, hb, hF⟩ := F w mg fa _ (hY w _ Y) Gd.T.g hmg
  obtain ⟨h1, h2, h3⟩ := hden w.params
  exact law_at (P := ⟨K w.params, cl w.params⟩) rfl (hY w _ Y) Gd.T.g Gd.T.b Gd.T.builtins Gd.T.nolimit hg hobj hints (Nat.le_trans hlen hn2) hr hF hb h1 h2 (h3 ns hlen)
end Ev

set_option Elab.async false
set_option linter.all false
set_option maxRecDepth 100000
set_option maxHeartbeats 4000000
set_option autoImplicit false
/-! Pl0: the evaluator reckoned: loops, comprehensions. -/
namespace Ev
open PySem

theorem evFor_inv {pr : List Nat} {lks : Lks} {t : Tg} {b : Sts → SR} (Q : Nat → Sts → Prop) : ∀ (ds : List D) (k : Nat) (S : Sts),
    (∀ (i : Nat) (d : D) (S : Sts), ds[i]? = some d → Q (k + i) S → lkOk S lks = true ∧ ∃ S1 S2, storeT pr S t false d = some S1 ∧ b S1 = .nx S2 ∧ Q (k + i + 1) S2) → (∀ S, Q (k + ds.length) S → lkOk S lks = true) → Q k S →
    ∃ S', evFor pr lks t b ds S = .nx S' ∧ Q (k + ds.length) S'
  | [], k, S, h, he, q => ⟨S, by simp only [evFor]; rw [if_pos (he S q)], q⟩
  | d :: ds, k, S, h, he, q => by
    obtain ⟨h1, S1, S2, h2, h3, h4⟩ := h 0 d S rfl q
    have e : k + 1 + ds.length = k + (d :: ds).length := by simp; omega
    obtain ⟨S', h5, h6⟩ := evFor_inv Q ds (k + 1) S2 (fun i d' S0 hi hq => by
      have e2 : k + 1 + i = k + (i + 1) := by omega
      rw [e2] at hq ⊢
      exact h (i + 1) d' S0 (by simpa using hi) hq) (fun S0 hq => he S0 (by rw [e] at hq; exact hq)) h4
    refine ⟨S', ?_, by rw [← e]; exact h6⟩
    simp only [evFor]
    rw [if_pos h1, h2]
    simp only [h3, SR.bind]
    exact h5
/-- what a comprehension makes, the state told by a -/
theorem evLC_st {α : Type} {lks : Lks} {t : Tg} {c : Sts → Rs Bool} {f : Sts → Rs (Bool × D)} (St : α → Sts) (step : D → α → D × α) (Q : α → Prop) : ∀ (ds : List D) (a : α), Q a → (∀ a, Q a → lkOk (St a) lks = true) →
    (∀ d ∈ ds, ∀ a, Q a → Q (step d a).2 ∧ ∃ S1 S2 S3 fr, storeT [] (St a) t false d = some S1 ∧ c S1 = .ok true S2 ∧ f S2 = .ok (fr, (step d a).1) S3 ∧ wipeS S3 t.slots = St (step d a).2) →
    ∃ ys a', evLC lks t c f ds (St a) = .ok ys (St a') ∧ Q a' ∧ ys.length = ds.length ∧ ∀ y ∈ ys, ∃ d ∈ ds, ∃ a, Q a ∧ y = (step d a).1
  | [], a, q, hl, h => ⟨[], a, by simp only [evLC]; rw [if_pos (hl a q)], q, rfl, fun y hy => by cases hy⟩
  | d :: ds, a, q, hl, h => by
    obtain ⟨q1, S1, S2, S3, fr, h1, h2, h3, h4⟩ := h d List.mem_cons_self a q
    obtain ⟨ys, a', h5, h6, h7, h8⟩ := evLC_st St step Q ds (step d a).2 q1 hl fun d' hd' => h d' (List.mem_cons_of_mem _ hd')
    refine ⟨(step d a).1 :: ys, a', ?_, h6, by simp [h7], fun y hy => ?_⟩
    · simp only [evLC]
      rw [if_pos (hl a q), h1]
      simp only [h2, Rs.nox, Rs.bind, if_true, h3, h4, h5]
    · rcases List.mem_cons.mp hy with e | hy
      · exact ⟨d, List.mem_cons_self, a, q, e⟩
      · obtain ⟨d', hd', r⟩ := h8 y hy
        exact ⟨d', List.mem_cons_of_mem _ hd', r⟩
/-- one that changes nothing -/
theorem evLC_map {lks : Lks} {t : Tg} {c : Sts → Rs Bool} {f : Sts → Rs (Bool × D)} {S : Sts} (g : D → D) (hl : lkOk S lks = true) : ∀ (ds : List D),
    (∀ d ∈ ds, ∃ S1 S2 S3 fr, storeT [] S t false d = some S1 ∧ c S1 = .ok true S2 ∧ f S2 = .ok (fr, g d) S3 ∧ wipeS S3 t.slots = S) → evLC lks t c f ds S = .ok (ds.map g) S
  | [], h => by simp only [evLC, List.map_nil]; rw [if_pos hl]
  | d :: ds, h => by
    obtain ⟨S1, S2, S3, fr, h1, h2, h3, h4⟩ := h d List.mem_cons_self
    simp only [evLC, List.map_cons]
    rw [if_pos hl, h1]
    simp only [h2, Rs.nox, Rs.bind, if_true, h3, h4]
    rw [evLC_map g hl ds fun d' hd' => h d' (List.mem_cons_of_mem _ hd')]
theorem mulOk_r {i j : Int} (h : j.natAbs < 2 ^ 64) : mulOk i j = true := by simp [mulOk, h]
theorem mulOk_l {i j : Int} (h : i.natAbs < 2 ^ 64) : mulOk i j = true := by simp [mulOk, h]
theorem intsOf_map (ns : List Int) : intsOf (ns.map PyData.int) = some ns := by
  induction ns with
  | nil => rfl
  | cons n ns ih => simp [intsOf, ih]
theorem prot_nil (G : Gl) : G.prot [] = G := by cases G; rfl
theorem fe_io (G : Gl) (c : CD) : (feOf G c).io = c.io := rfl
theorem fe_fr (G : Gl) (c : CD) : (feOf G c).fr = c.fr := rfl
theorem fe_den (G : Gl) (c : CD) (ds : List D) : (feOf G c).den ds = runD G c ds := rfl
/-- a def's value from an existence -/
theorem mem_rng {n : Nat} {lo : Int} {d : D} (h : d ∈ (List.range n).map fun k => PyData.int (lo + (k : Nat))) : ∃ k : Nat, k < n ∧ d = .int (lo + (k : Nat)) := by
  rw [List.mem_map] at h
  obtain ⟨k, hk, e⟩ := h
  exact ⟨k, List.mem_range.mp hk, e.symm⟩
theorem get_rng {n i : Nat} {lo : Int} {d : D} (h : ((List.range n).map fun k => PyData.int (lo + (k : Nat)))[i]? = some d) : i < n ∧ d = .int (lo + (i : Nat)) := by
  rw [List.getElem?_map] at h
  cases hk : (List.range n)[i]? with
  | none => rw [hk] at h; cases h
  | some k =>
    rw [hk] at h
    obtain ⟨hlt, hk⟩ := List.getElem?_eq_some_iff.mp hk
    rw [List.getElem_range] at hk
    subst hk
    cases h
    exact ⟨by simpa using hlt, rfl⟩
theorem get_rng0 {n i : Nat} {d : D} (h : ((List.range n).map fun k => PyData.int (k : Nat))[i]? = some d) : i < n ∧ d = .int (i : Nat) := by
  have e : (fun k : Nat => PyData.int (k : Nat)) = fun k : Nat => PyData.int ((0 : Int) + (k : Nat)) := by funext k; simp
  rw [e] at h
  obtain ⟨h1, h2⟩ := get_rng h
  exact ⟨h1, by rw [h2]; simp⟩
theorem ints_by {T : Int → Prop} : ∀ {ys : List D}, (∀ y ∈ ys, ∃ c : Int, T c ∧ y = .int c) → ∃ cs : List Int, ys = cs.map .int ∧ cs.length = ys.length ∧ ∀ c ∈ cs, T c
  | [], _ => ⟨[], rfl, rfl, fun c h => by cases h⟩
  | y :: ys, h => by
    obtain ⟨c, hc, rfl⟩ := h y List.mem_cons_self
    obtain ⟨cs, e1, e2, e3⟩ := ints_by fun z hz => h z (List.mem_cons_of_mem _ hz)
    refine ⟨c :: cs, by rw [e1]; rfl, by simp [e2], fun d hd => ?_⟩
    rcases List.mem_cons.mp hd with rfl | hd
    · exact hc
    · exact e3 d hd
theorem mem_rng0 {n : Nat} {d : D} (h : d ∈ (List.range n).map fun k => PyData.int (k : Nat)) : ∃ k : Nat, k < n ∧ d = .int (k : Nat) := by
  rw [List.mem_map] at h
  obtain ⟨k, hk, e⟩ := h
  exact ⟨k, List.mem_range.mp hk, e.symm⟩
theorem sum_take {l : List Int} {i : Nat} {v : Int} (h : l[i]? = some v) : (l.take (i + 1)).sum = (l.take i).sum + v := by
  rw [List.take_add_one, h, List.sum_append]
  simp
/-- pairs, each to one number -/
def mulP : D → D
  | .tuple [.int a, .int b] => .int (a * b)
  | d => d
theorem zip_mul : ∀ (cs ls : List Int), (List.zipWith (fun x y => PyData.tuple [x, y]) (cs.map PyData.int) (ls.map PyData.int)).map mulP = (List.zipWith (fun a b : Int => a * b) cs ls).map PyData.int
  | [], _ => by simp
  | _ :: _, [] => by simp
  | c :: cs, l :: ls => by
    have ih := zip_mul cs ls
    simp only [List.map_cons, List.zipWith_cons_cons, mulP]
    rw [ih]
theorem zip_mem {cs ls : List Int} {d : D} (h : d ∈ List.zipWith (fun x y => PyData.tuple [x, y]) (cs.map PyData.int) (ls.map PyData.int)) : ∃ a ∈ cs, ∃ b ∈ ls, d = .tuple [.int a, .int b] := by
  induction cs generalizing ls with
  | nil => simp at h
  | cons c cs ih =>
    cases ls with
    | nil => simp at h
    | cons l ls =>
      simp only [List.map_cons, List.zipWith_cons_cons, List.mem_cons] at h
      rcases h with rfl | h
      · exact ⟨c, List.mem_cons_self, l, List.mem_cons_self, rfl⟩
      · obtain ⟨a, ha, b, hb, e⟩ := ih h
        exact ⟨a, List.mem_cons_of_mem _ ha, b, List.mem_cons_of_mem _ hb, e⟩
/-! ### what the evaluator's words come to -/
section
variable {α β : Type} {a : α} {S S1 : Sts} {c : Nat} {i j : Int} {ds es : List D} {x y d : D}
theorem rb_ok (f : α → Sts → Rs β) : (Rs.ok a S).bind f = f a S := rfl
theorem rb_ex (f : α → Sts → Rs β) : (Rs.ex c S : Rs α).bind f = .ex c S := rfl
theorem rs_ok (f : α → Sts → SR) : (Rs.ok a S).st f = f a S := rfl
theorem rs_ex (f : α → Sts → SR) : (Rs.ex c S : Rs α).st f = .ex c S := rfl
theorem sb_nx (f : Sts → SR) : (SR.nx S).bind f = f S := rfl
theorem sb_rt (r : Bool × D) (f : Sts → SR) : (SR.rt r S).bind f = .rt r S := rfl
theorem sb_ex (f : Sts → SR) : (SR.ex c S).bind f = .ex c S := rfl
theorem sm_nx (f : Sts → Sts) : (SR.nx S).mapS f = .nx (f S) := rfl
theorem sm_rt (r : Bool × D) (f : Sts → Sts) : (SR.rt r S).mapS f = .rt r (f S) := rfl
theorem os_some : optS (some S) = .nx S := rfl
theorem of_some : ofOpt (some a) S = .ok a S := rfl
theorem nx_ok : (Rs.ok a S).nox = .ok a S := rfl
theorem op_var (k : Nat) (r : Sts → Rs (Bool × D)) : opE (.var k) r S = match rdS S k with
  | some d => .ok (false, d) S
  | none => .bad := rfl
theorem lt_var (k : Nat) : late (.var k) d S = rdS S k := rfl
theorem b_add : binD .add (.int i) (.int j) = some (false, .int (i + j)) := rfl
theorem b_sub : binD .sub (.int i) (.int j) = some (false, .int (i - j)) := rfl
theorem b_mul (h : mulOk i j = true) : binD .mul (.int i) (.int j) = some (false, .int (i * j)) := by simp [binD, h]
theorem b_fdiv (h : divOk j = true) : binD .fdiv (.int i) (.int j) = some (false, .int (i.fdiv j)) := by simp [binD, h]
theorem b_mod (h : j ≠ 0) : binD .mod (.int i) (.int j) = some (false, .int (i.fmod j)) := by simp [binD, h]
theorem b_pow (h : powOk i j = true) : binD .pow (.int i) (.int j) = some (false, .int (i ^ j.toNat)) := by simp [binD, h]
theorem b_addL (h : ds.length + es.length ≤ szl) : binD .add (.list ds) (.list es) = some (true, .list (ds ++ es)) := by simp [binD, h]
theorem b_addT (h : ds.length + es.length ≤ szl) : binD .add (.tuple ds) (.tuple es) = some (false, .tuple (ds ++ es)) := by simp [binD, h]
theorem b_mulL (h : -(2 ^ 62) ≤ i ∧ i < 2 ^ 62 ∧ ds.length * i.toNat ≤ szl) : binD .mul (.list ds) (.int i) = some (true, .list (repD i ds)) := by simp only [binD]; rw [if_pos h]
theorem c_lt : cmpD .lt (.int i) (.int j) = some (decide (i < j)) := rfl
theorem c_le : cmpD .le (.int i) (.int j) = some (decide (i ≤ j)) := rfl
theorem c_gt : cmpD .gt (.int i) (.int j) = some (decide (j < i)) := rfl
theorem c_ge : cmpD .ge (.int i) (.int j) = some (decide (j ≤ i)) := rfl
theorem c_eq : cmpD .eq (.int i) (.int j) = some (decide (i = j)) := by
  by_cases h : i = j <;> simp [cmpD, plain, PyData.eqv, h]
theorem c_ne : cmpD .ne (.int i) (.int j) = some (!decide (i = j)) := by
  by_cases h : i = j <;> simp [cmpD, plain, PyData.eqv, h]
theorem c_eqv (hx : plain 60 x = true) (hy : plain 60 y = true) : cmpD .eq x y = some (PyData.eqv x y) := by simp [cmpD, hx, hy]
theorem c_nev (hx : plain 60 x = true) (hy : plain 60 y = true) : cmpD .ne x y = some (!PyData.eqv x y) := by simp [cmpD, hx, hy]
theorem g_ix (n : Nat) (h : 0 ≤ i) : ((ixD n i).bind fun k => ds[k]?) = if i < n then ds[i.toNat]? else none := by
  unfold ixD
  rw [if_pos h]
  by_cases hn : i < n <;> simp [hn]
theorem g_list (h : 0 ≤ i) : getIx (.list ds) (.int i) = ds[i.toNat]? := by
  show ((ixD ds.length i).bind fun k => ds[k]?) = _
  rw [g_ix _ h]
  split
  · rfl
  · rename_i hn
    rw [List.getElem?_eq_none (by omega)]
theorem g_tup (h : 0 ≤ i) : getIx (.tuple ds) (.int i) = ds[i.toNat]? := g_list h
theorem g_scr (h : 0 ≤ i) : getIx (.dict [(.none, .list ds)]) (.int i) = ds[i.toNat]? := g_list h
theorem l_list : biD .len [.list ds] = some (false, .int ds.length) := rfl
theorem l_tup : biD .len [.tuple ds] = some (false, .int ds.length) := rfl
theorem l_scr : biD .len [.dict [(.none, .list ds)]] = some (false, .int ds.length) := rfl
theorem l_sum (ns : List Int) : biD .sum [.list (ns.map .int)] = some (false, .int ns.sum) := by simp [biD, itemsOf, intsOf_map]
theorem l_sumT (ns : List Int) : biD .sum [.tuple (ns.map .int)] = some (false, .int ns.sum) := by simp [biD, itemsOf, intsOf_map]
theorem l_tupL : biD .tuple [.list ds] = some (false, .tuple ds) := rfl
theorem l_tupT : biD .tuple [.tuple ds] = some (false, .tuple ds) := rfl
theorem l_listL : biD .list [.list ds] = some (true, .list ds) := rfl
theorem l_listT : biD .list [.tuple ds] = some (true, .list ds) := rfl
theorem l_int : biD .int [.int i] = some (false, .int i) := rfl
theorem l_intB (b : Bool) : biD .int [.bool b] = some (false, .int (if b then 1 else 0)) := rfl
theorem l_abs : biD .abs [.int i] = some (false, .int (if i < 0 then -i else i)) := rfl
theorem lk_nil (S : Sts) : unlockS S [] = S := rfl
theorem lkOk_nil (S : Sts) : lkOk S [] = true := rfl
theorem n_sh : nlk (.sh d) = true := rfl
theorem n_ow : nlk (.ow d) = true := rfl
theorem n_no : nlk .no = true := rfl
theorem g_scrD (ns : List Int) (h : 0 ≤ i) : getIx (scrD ns) (.int i) = (ns[i.toNat]?).map PyData.int := by
  unfold scrD
  rw [g_scr h, List.getElem?_map]
theorem l_scrD (ns : List Int) : biD .len [scrD ns] = some (false, .int ns.length) := by
  unfold scrD
  rw [l_scr, List.length_map]
theorem divOk_s {s : Int} (h0 : s ≠ 0) (h1 : s.natAbs < 1073741824) : divOk s = true := by
  unfold divOk
  rw [Bool.and_eq_true, Bool.or_eq_true]
  exact ⟨by simpa using h0, .inl (decide_eq_true h1)⟩
theorem szl_le {n : Nat} (h : n ≤ 1000) : n ≤ szl := by
  unfold szl
  omega
theorem l_sumZ (cs ls : List Int) : biD .sum [.list (List.zipWith (fun x y => PyData.int (x * y)) cs ls)] = some (false, .int (List.zipWith (fun x y : Int => x * y) cs ls).sum) := by
  have e : List.zipWith (fun x y => PyData.int (x * y)) cs ls = (List.zipWith (fun x y : Int => x * y) cs ls).map PyData.int := by simp
  rw [e, l_sum]
theorem small_n {n : Nat} (h : n ≤ 1000000000) : smallI (n : Int) = true := by
  unfold smallI
  rw [Bool.and_eq_true]
  exact ⟨decide_eq_true (by omega), decide_eq_true (by omega)⟩
end
end Ev

set_option Elab.async false
set_option linter.all false
set_option maxRecDepth 100000
set_option maxHeartbeats 8000000
set_option autoImplicit false
namespace Lw
open PySem PySem.Spec PyProof.Rows L2 Ev
def top (i : Nat) : Stmt := PySem.Challenge.pw_leastlots_k50_what_lots_cost.main.body.getD i (.Pass ⟨0, 0, 0, 0⟩)
def bls : List Str := ["bool", "int", "isinstance", "len", "range", "sum", "tuple", "zip"]
def clN (c : Nat) : Option Str := none
def G0 : Gl := ⟨fun _ => none, fun _ => none, []⟩
def T0 : Tab := ⟨[], bls, [], [], []⟩
def fe_cost_of_1 : CE := (.bin .mul (.var 2) (.var 3))
def cd_cost_of : CD := ⟨[false, false], false, 4, (.cons (.ret (.bi .sum (.cons (.comp (.many [2, 3]) (.zip (.var 0) (.var 1)) .nil fe_cost_of_1) .nil)))
    .nil)⟩
def ns_cost_of : List Str := ["costs", "lot", "cost", "number"]
def ps_cost_of : List Str := ["costs", "lot"]
theorem ck_cost_of : (C8.scC ns_cost_of ps_cost_of (defScope (top 1)) && decide (cd_cost_of.io.length = ps_cost_of.length) && decide (cd_cost_of.slots = ns_cost_of.length) && decide (ps_cost_of.length ≤ ns_cost_of.length) && chkBs { T0 with N := ns_cost_of } (defScope (top 1)) cd_cost_of.body (defBody (top 1))) = true := by decide +kernel
def T1 : Tab := { T0 with fn := (61, "cost_of", cd_cost_of.io) :: T0.fn }
def G1 : Gl := G0.add 61 (feOf G0 cd_cost_of)
theorem io_cost_of : cd_cost_of.io = [false, false] := rfl
theorem fr_cost_of : cd_cost_of.fr = false := rfl
def cd_l_law_mixed : CD := ⟨[false, false], false, 3, (.cons (.set (.one 2) (.bin .mod (.bin .add (.bin .add (.bin .mul (.bin .mod (.var 0) (.cst (.int 2147483647))) (.cst (.int 48271))) (.bin .mul (.var 1) (.cst (.int 69621)))) (.cst (.int 1048583))) (.cst (.int 2147483629))))
    (.cons (.set (.one 2) (.bin .mod (.bin .mul (.var 2) (.var 2)) (.cst (.int 2147483587))))
    (.cons (.ret (.bin .mod (.bin .mul (.var 2) (.bin .add (.var 2) (.cst (.int 2)))) (.cst (.int 2147483579))))
    .nil)))⟩
def ns_l_law_mixed : List Str := ["_law_cell_here", "_law_k", "_law_number"]
def ps_l_law_mixed : List Str := ["_law_cell_here", "_law_k"]
theorem ck_l_law_mixed : (C8.scC ns_l_law_mixed ps_l_law_mixed (defScope (top 3)) && decide (cd_l_law_mixed.io.length = ps_l_law_mixed.length) && decide (cd_l_law_mixed.slots = ns_l_law_mixed.length) && decide (ps_l_law_mixed.length ≤ ns_l_law_mixed.length) && chkBs { T1 with N := ns_l_law_mixed } (defScope (top 3)) cd_l_law_mixed.body (defBody (top 3))) = true := by decide +kernel
def T2 : Tab := { T1 with fn := (1000, "_law_mixed", cd_l_law_mixed.io) :: T1.fn }
def G2 : Gl := G1.add 1000 (feOf G1 cd_l_law_mixed)
theorem io_l_law_mixed : cd_l_law_mixed.io = [false, false] := rfl
theorem fr_l_law_mixed : cd_l_law_mixed.fr = false := rfl
def fb_l_law_cell_1 : CSs := (.cons (.set (.one 3) (.bin .add (.bin .mul (.var 3) (.cst (.int 2147483579))) (.call 1000 (.cons (.var 2) (.cons (.bin .add (.bin .add (.bin .mul (.cst (.int 7)) (.var 1)) (.bin .mul (.cst (.int 100)) (.var 4))) (.bin .mul (.var 4) (.var 4))) .nil)))))
    .nil)
def cd_l_law_cell : CD := ⟨[false, false], false, 5, (.cons (.set (.one 2) (.cst (.int 0)))
    (.cons (.ife (.cmp .lt (.var 1) (.bi .len (.cons (.var 0) .nil))) (.cons (.set (.one 2) (.ix (.var 0) (.var 1)))
    .nil) .nil)
    (.cons (.ife (.cmp .ge (.var 2) (.bin .pow (.cst (.int 10)) (.cst (.int 18)))) (.cons (.ret (.bin .mod (.bin .sub (.var 2) (.bin .pow (.cst (.int 10)) (.cst (.int 18)))) (.bin .mul (.bin .mul (.bin .mul (.bin .pow (.cst (.int 10)) (.cst (.int 60))) (.bin .pow (.cst (.int 10)) (.cst (.int 60)))) (.bin .pow (.cst (.int 10)) (.cst (.int 60)))) (.bin .pow (.cst (.int 10)) (.cst (.int 60))))))
    .nil) .nil)
    (.cons (.set (.one 3) (.cst (.int 0)))
    (.cons (.loop (.one 4) (.range1 (.cst (.int 24))) fb_l_law_cell_1)
    (.cons (.ret (.var 3))
    .nil))))))⟩
def ns_l_law_cell : List Str := ["_law_script", "_law_k", "_law_cell_here", "_law_found", "_law_j"]
def ps_l_law_cell : List Str := ["_law_script", "_law_k"]
theorem ck_l_law_cell : (C8.scC ns_l_law_cell ps_l_law_cell (defScope (top 4)) && decide (cd_l_law_cell.io.length = ps_l_law_cell.length) && decide (cd_l_law_cell.slots = ns_l_law_cell.length) && decide (ps_l_law_cell.length ≤ ns_l_law_cell.length) && chkBs { T2 with N := ns_l_law_cell } (defScope (top 4)) cd_l_law_cell.body (defBody (top 4))) = true := by decide +kernel
def T3 : Tab := { T2 with fn := (1001, "_law_cell", cd_l_law_cell.io) :: T2.fn }
def G3 : Gl := G2.add 1001 (feOf G2 cd_l_law_cell)
theorem io_l_law_cell : cd_l_law_cell.io = [false, false] := rfl
theorem fr_l_law_cell : cd_l_law_cell.fr = false := rfl
theorem fn_l_law_cell_l_law_mixed : G2.fn 1000 = some (feOf G1 cd_l_law_mixed) := rfl
def cd_l_law_take : CD := ⟨[true, false], false, 3, (.cons (.set (.one 2) (.bin .mod (.ix (.var 0) (.cst (.int 0))) (.var 1)))
    (.cons (.setix 0 (.cst (.int 0)) (.bin .fdiv (.ix (.var 0) (.cst (.int 0))) (.var 1)))
    (.cons (.ret (.var 2))
    .nil)))⟩
def ns_l_law_take : List Str := ["_law_pile", "_law_size", "_law_digit"]
def ps_l_law_take : List Str := ["_law_pile", "_law_size"]
theorem ck_l_law_take : (C8.scC ns_l_law_take ps_l_law_take (defScope (top 5)) && decide (cd_l_law_take.io.length = ps_l_law_take.length) && decide (cd_l_law_take.slots = ns_l_law_take.length) && decide (ps_l_law_take.length ≤ ns_l_law_take.length) && chkBs { T3 with N := ns_l_law_take } (defScope (top 5)) cd_l_law_take.body (defBody (top 5))) = true := by decide +kernel
def T4 : Tab := { T3 with fn := (1002, "_law_take", cd_l_law_take.io) :: T3.fn }
def G4 : Gl := G3.add 1002 (feOf G3 cd_l_law_take)
theorem io_l_law_take : cd_l_law_take.io = [true, false] := rfl
theorem fr_l_law_take : cd_l_law_take.fr = false := rfl
def fe_l_law_costs_1 : CE := (.bin .sub (.call 1002 (.cons (.var 0) (.cons (.cst (.int 19)) .nil))) (.cst (.int 9)))
def cd_l_law_costs : CD := ⟨[true, false], false, 3, (.cons (.ret (.bi .tuple (.cons (.comp (.one 2) (.range1 (.var 1)) .nil fe_l_law_costs_1) .nil)))
    .nil)⟩
def ns_l_law_costs : List Str := ["_law_pile", "_law_width", "_law_k"]
def ps_l_law_costs : List Str := ["_law_pile", "_law_width"]
theorem ck_l_law_costs : (C8.scC ns_l_law_costs ps_l_law_costs (defScope (top 6)) && decide (cd_l_law_costs.io.length = ps_l_law_costs.length) && decide (cd_l_law_costs.slots = ns_l_law_costs.length) && decide (ps_l_law_costs.length ≤ ns_l_law_costs.length) && chkBs { T4 with N := ns_l_law_costs } (defScope (top 6)) cd_l_law_costs.body (defBody (top 6))) = true := by decide +kernel
def T5 : Tab := { T4 with fn := (1003, "_law_costs", cd_l_law_costs.io) :: T4.fn }
def G5 : Gl := G4.add 1003 (feOf G4 cd_l_law_costs)
theorem io_l_law_costs : cd_l_law_costs.io = [true, false] := rfl
theorem fr_l_law_costs : cd_l_law_costs.fr = false := rfl
theorem fn_l_law_costs_l_law_take : G4.fn 1002 = some (feOf G3 cd_l_law_take) := rfl
def fe_l_law_lot_1 : CE := (.call 1002 (.cons (.var 0) (.cons (.ix (.lst (.cons (.cst (.int 3)) (.cons (.cst (.int 6)) (.cons (.cst (.int 40)) .nil)))) (.var 2)) .nil)))
def fe_l_law_lot_2 : CE := (.bin .mul (.call 1002 (.cons (.var 0) (.cons (.bin .pow (.cst (.int 10)) (.cst (.int 9))) .nil))) (.bi .int (.cons (.cmp .gt (.call 1002 (.cons (.var 0) (.cons (.cst (.int 3)) .nil))) (.cst (.int 0))) .nil)))
def cd_l_law_lot : CD := ⟨[true, false], false, 4, (.cons (.set (.one 2) (.call 1002 (.cons (.var 0) (.cons (.cst (.int 4)) .nil))))
    (.cons (.ife (.cmp .eq (.var 2) (.cst (.int 3))) (.cons (.ret (.bi .tuple (.cons (.comp (.one 3) (.range1 (.var 1)) .nil fe_l_law_lot_2) .nil)))
    .nil) .nil)
    (.cons (.ret (.bi .tuple (.cons (.comp (.one 3) (.range1 (.var 1)) .nil fe_l_law_lot_1) .nil)))
    .nil)))⟩
def ns_l_law_lot : List Str := ["_law_pile", "_law_width", "_law_way", "_law_k"]
def ps_l_law_lot : List Str := ["_law_pile", "_law_width"]
theorem ck_l_law_lot : (C8.scC ns_l_law_lot ps_l_law_lot (defScope (top 7)) && decide (cd_l_law_lot.io.length = ps_l_law_lot.length) && decide (cd_l_law_lot.slots = ns_l_law_lot.length) && decide (ps_l_law_lot.length ≤ ns_l_law_lot.length) && chkBs { T5 with N := ns_l_law_lot } (defScope (top 7)) cd_l_law_lot.body (defBody (top 7))) = true := by decide +kernel
def T6 : Tab := { T5 with fn := (1004, "_law_lot", cd_l_law_lot.io) :: T5.fn }
def G6 : Gl := G5.add 1004 (feOf G5 cd_l_law_lot)
theorem io_l_law_lot : cd_l_law_lot.io = [true, false] := rfl
theorem fr_l_law_lot : cd_l_law_lot.fr = false := rfl
theorem fn_l_law_lot_l_law_take : G5.fn 1002 = some (feOf G3 cd_l_law_take) := rfl
def fb_law_1 : CSs := (.cons (.set (.one 9) (.bin .add (.var 9) (.bin .mul (.ix (.var 4) (.var 10)) (.ix (.var 8) (.var 10)))))
    .nil)
def fb_law_2 : CSs := (.cons (.set (.one 9) (.cst (.int 0)))
    (.cons (.loop (.one 10) (.range1 (.var 3)) fb_law_1)
    (.cons (.set (.one 11) (.call 61 (.cons (.var 4) (.cons (.var 8) .nil))))
    (.cons (.ife (.or (.not (.isi (.var 11) .int)) (.or (.isi (.var 11) .bool) (.cmp .ne (.var 11) (.var 9)))) (.cons (.ret (.cst (.bool false)))
    .nil) .nil)
    .nil))))
def fe_law_3 : CE := (.bin .mul (.var 7) (.ix (.lst (.cons (.cst (.int 1)) (.cons (.neg (.cst (.int 1))) .nil))) (.call 1002 (.cons (.var 2) (.cons (.cst (.int 2)) .nil)))))
def fb_law_4 : CSs := (.cons (.set (.one 2) (.lst (.cons (.call 1001 (.cons (.var 0) (.cons (.var 1) .nil))) .nil)))
    (.cons (.set (.one 3) (.bin .add (.cst (.int 1)) (.call 1002 (.cons (.var 2) (.cons (.cst (.int 5)) .nil)))))
    (.cons (.set (.one 4) (.call 1003 (.cons (.var 2) (.cons (.var 3) .nil))))
    (.cons (.set (.one 5) (.call 1004 (.cons (.var 2) (.cons (.var 3) .nil))))
    (.cons (.set (.one 6) (.bi .tuple (.cons (.comp (.one 7) (.seq (.var 5)) .nil fe_law_3) .nil)))
    (.cons (.loop (.one 8) (.seq (.lst (.cons (.var 5) (.cons (.var 6) (.cons (.bi .tuple (.cons (.bin .mul (.lst (.cons (.cst (.int 0)) .nil)) (.var 3)) .nil)) .nil))))) fb_law_2)
    .nil))))))
def cd_law : CD := ⟨[false], false, 12, (.cons (.loop (.one 1) (.range1 (.cst (.int 8))) fb_law_4)
    (.cons (.ret (.cst (.bool true)))
    .nil))⟩
def ns_law : List Str := ["_law_script", "_law_k", "_law_pile", "_law_width", "_law_costs_here", "_law_lot_here", "_law_turned", "_law_one", "_law_some", "_law_due", "_law_at", "_law_found"]
def ps_law : List Str := ["_law_script"]
theorem ck_law : (C8.scC ns_law ps_law (defScope (top 8)) && decide (cd_law.io.length = ps_law.length) && decide (cd_law.slots = ns_law.length) && decide (ps_law.length ≤ ns_law.length) && chkBs { T6 with N := ns_law } (defScope (top 8)) cd_law.body (defBody (top 8))) = true := by decide +kernel
def T7 : Tab := { T6 with fn := (1005, "law", cd_law.io) :: T6.fn }
def G7 : Gl := G6.add 1005 (feOf G6 cd_law)
theorem io_law : cd_law.io = [false] := rfl
theorem fr_law : cd_law.fr = false := rfl
theorem fn_law_cost_of : G6.fn 61 = some (feOf G0 cd_cost_of) := rfl
theorem fn_law_l_law_cell : G6.fn 1001 = some (feOf G2 cd_l_law_cell) := rfl
theorem fn_law_l_law_take : G6.fn 1002 = some (feOf G3 cd_l_law_take) := rfl
theorem fn_law_l_law_costs : G6.fn 1003 = some (feOf G4 cd_l_law_costs) := rfl
theorem fn_law_l_law_lot : G6.fn 1004 = some (feOf G5 cd_l_law_lot) := rfl
end Lw

set_option Elab.async false
set_option linter.all false
set_option maxRecDepth 100000
set_option maxHeartbeats 4000000
set_option autoImplicit false
namespace Lw
open PySem PySem.Spec PyProof.Rows L2 Ev

theorem mod_small {a b : Int} (h : 0 < b) (h2 : b < 2 ^ 64) : (a.fmod b).natAbs < 2 ^ 64 := by
  have h1 := Int.fmod_nonneg_of_pos a h
  have h3 := Int.fmod_lt_of_pos a h
  omega
theorem den_mixed (c k : Int) : ∃ r : Int, (feOf G1 cd_l_law_mixed).den [.int c, .int k] = .ret (.int r) [] := by
  have m1 : ∀ x : Int, mulOk x 48271 = true := fun x => mulOk_r (by decide)
  have m2 : ∀ x : Int, mulOk x 69621 = true := fun x => mulOk_r (by decide)
  have m3 : ∀ x : Int, mulOk (x.fmod 2147483629) (x.fmod 2147483629) = true := fun x => mulOk_r (mod_small (by decide) (by decide))
  have m4 : ∀ x y : Int, mulOk (x.fmod 2147483587) y = true := fun x y => mulOk_l (mod_small (by decide) (by decide))
  rw [fe_den, runD]
  simp -implicitDefEqProofs [fe_io, fe_fr, prot_nil, startS, outsOf, endR, evB, evS, ev, evT, evL, evO, evA, evP, evC, evI, op_var, lt_var, opE, late, late1, late2, lates, rdS, valS, itemsOf, onlyL, lockS, lkSlots, unlockS, lkOk_nil, noOwn, Tg.slots, wipeS, backS, callR, nodupB, AD.slots, argD, argsD, outsS, tru, isTy, mutD, isLst, rb_ok, rb_ex, rs_ok, rs_ex, sb_nx, sb_rt, sb_ex, sm_nx, sm_rt, os_some, of_some, nx_ok, storeT, putS, putsS, canSt, n_sh, n_ow, n_no, slOf, ioSlots, powOk, b_add, b_sub, b_mul, b_fdiv, b_mod, b_pow, c_lt, c_le, c_gt, c_ge, c_eq, c_ne, g_list, g_tup, g_scrD, l_list, l_tup, l_scrD, l_sum, l_sumT, l_tupL, l_tupT, l_listL, l_listT, l_int, l_intB, l_abs, cd_l_law_mixed, m1, m2, m3, m4]
theorem den_cell (ns : List Int) (k : Nat) (hk : k < 100) : ∃ r : Int, (feOf G2 cd_l_law_cell).den [scrD ns, .int k] = .ret (.int r) [] := by
  have lm : mulOk 7 (k : Int) = true := mulOk_l (by decide)
  have m2 : ∀ x : Int, mulOk x 2147483579 = true := fun x => mulOk_r (by decide)
  have m3 : ∀ x : Int, mulOk 100 x = true := fun x => mulOk_l (by decide)
  have m0 : smallI 24 = true := by decide +kernel
  have m4 : mulOk (1000000000000000000000000000000000000000000000000000000000000) (1000000000000000000000000000000000000000000000000000000000000) = true := by decide +kernel
  have m5 : mulOk (1000000000000000000000000000000000000000000000000000000000000000000000000000000000000000000000000000000000000000000000000) (1000000000000000000000000000000000000000000000000000000000000) = true := by decide +kernel
  have m6 : mulOk (1000000000000000000000000000000000000000000000000000000000000000000000000000000000000000000000000000000000000000000000000000000000000000000000000000000000000000000000000000000000000) (1000000000000000000000000000000000000000000000000000000000000) = true := by decide +kernel
  have loop : ∀ (here found : Int), ∃ S', evFor [] [] (.one 4) (evB ⟨G2.con, G2.fn, []⟩ fb_l_law_cell_1) ((List.range 24).map fun k => PyData.int (k : Nat)) [.sh (scrD ns), .sh (.int k), .sh (.int here), .sh (.int found), .no] = .nx S' ∧
      ∃ (r : Int) (s : Sl), nlk s = true ∧ S' = [.sh (scrD ns), .sh (.int k), .sh (.int here), .sh (.int r), s] := by
    intro here found
    have q := evFor_inv (pr := []) (lks := []) (t := .one 4) (b := evB ⟨G2.con, G2.fn, []⟩ fb_l_law_cell_1) (fun _ S' => ∃ (r : Int) (s : Sl), nlk s = true ∧ S' = [.sh (scrD ns), .sh (.int k), .sh (.int here), .sh (.int r), s]) ((List.range 24).map fun k => PyData.int (k : Nat)) 0 [.sh (scrD ns), .sh (.int k), .sh (.int here), .sh (.int found), .no] ?_ (fun _ _ => rfl) ⟨found, .no, rfl, rfl⟩
    · obtain ⟨S', q1, r, s, q2, q3⟩ := q
      exact ⟨S', q1, r, s, q2, q3⟩
    · rintro i d S hd ⟨r, s, hs, rfl⟩
      obtain ⟨hi, rfl⟩ := get_rng0 hd
      obtain ⟨v, hv⟩ := den_mixed here (7 * (k : Int) + 100 * (i : Int) + (i : Int) * (i : Int))
      have m7 : mulOk (i : Int) (i : Int) = true := mulOk_l (by omega)
      refine ⟨rfl, ?_⟩
      simp -implicitDefEqProofs [fe_io, fe_fr, prot_nil, startS, outsOf, endR, evB, evS, ev, evT, evL, evO, evA, evP, evC, evI, op_var, lt_var, opE, late, late1, late2, lates, rdS, valS, itemsOf, onlyL, lockS, lkSlots, unlockS, lkOk_nil, noOwn, Tg.slots, wipeS, backS, callR, nodupB, AD.slots, argD, argsD, outsS, tru, isTy, mutD, isLst, rb_ok, rb_ex, rs_ok, rs_ex, sb_nx, sb_rt, sb_ex, sm_nx, sm_rt, os_some, of_some, nx_ok, storeT, putS, putsS, canSt, n_sh, n_ow, n_no, slOf, ioSlots, powOk, b_add, b_sub, b_mul, b_fdiv, b_mod, b_pow, c_lt, c_le, c_gt, c_ge, c_eq, c_ne, g_list, g_tup, g_scrD, l_list, l_tup, l_scrD, l_sum, l_sumT, l_tupL, l_tupT, l_listL, l_listT, l_int, l_intB, l_abs, fb_l_law_cell_1, fn_l_law_cell_l_law_mixed, io_l_law_mixed, fr_l_law_mixed, hs, lm, m2, m3, m7, hv]
  rw [fe_den, runD]
  by_cases hlt : (k : Int) < ns.length
  · have hlt' : k < ns.length := by omega
    have hix : (ns.map PyData.int)[k]? = some (.int ns[k]) := by rw [List.getElem?_map, List.getElem?_eq_getElem hlt']; rfl
    by_cases hb : (1000000000000000000 : Int) ≤ ns[k]
    · simp -implicitDefEqProofs [fe_io, fe_fr, prot_nil, startS, outsOf, endR, evB, evS, ev, evT, evL, evO, evA, evP, evC, evI, op_var, lt_var, opE, late, late1, late2, lates, rdS, valS, itemsOf, onlyL, lockS, lkSlots, unlockS, lkOk_nil, noOwn, Tg.slots, wipeS, backS, callR, nodupB, AD.slots, argD, argsD, outsS, tru, isTy, mutD, isLst, rb_ok, rb_ex, rs_ok, rs_ex, sb_nx, sb_rt, sb_ex, sm_nx, sm_rt, os_some, of_some, nx_ok, storeT, putS, putsS, canSt, n_sh, n_ow, n_no, slOf, ioSlots, powOk, b_add, b_sub, b_mul, b_fdiv, b_mod, b_pow, c_lt, c_le, c_gt, c_ge, c_eq, c_ne, g_list, g_tup, g_scrD, l_list, l_tup, l_scrD, l_sum, l_sumT, l_tupL, l_tupT, l_listL, l_listT, l_int, l_intB, l_abs, cd_l_law_cell, m0, hlt, hlt', hix, hb, m4, m5, m6]
    · obtain ⟨S', q1, r, s, q2, rfl⟩ := loop ns[k] 0
      simp -implicitDefEqProofs [fe_io, fe_fr, prot_nil, startS, outsOf, endR, evB, evS, ev, evT, evL, evO, evA, evP, evC, evI, op_var, lt_var, opE, late, late1, late2, lates, rdS, valS, itemsOf, onlyL, lockS, lkSlots, unlockS, lkOk_nil, noOwn, Tg.slots, wipeS, backS, callR, nodupB, AD.slots, argD, argsD, outsS, tru, isTy, mutD, isLst, rb_ok, rb_ex, rs_ok, rs_ex, sb_nx, sb_rt, sb_ex, sm_nx, sm_rt, os_some, of_some, nx_ok, storeT, putS, putsS, canSt, n_sh, n_ow, n_no, slOf, ioSlots, powOk, b_add, b_sub, b_mul, b_fdiv, b_mod, b_pow, c_lt, c_le, c_gt, c_ge, c_eq, c_ne, g_list, g_tup, g_scrD, l_list, l_tup, l_scrD, l_sum, l_sumT, l_tupL, l_tupT, l_listL, l_listT, l_int, l_intB, l_abs, cd_l_law_cell, m0, hlt, hlt', hix, hb, m4, m5, m6, q1]
  · have hlt' : ¬ k < ns.length := by omega
    obtain ⟨S', q1, r, s, q2, rfl⟩ := loop 0 0
    simp -implicitDefEqProofs [fe_io, fe_fr, prot_nil, startS, outsOf, endR, evB, evS, ev, evT, evL, evO, evA, evP, evC, evI, op_var, lt_var, opE, late, late1, late2, lates, rdS, valS, itemsOf, onlyL, lockS, lkSlots, unlockS, lkOk_nil, noOwn, Tg.slots, wipeS, backS, callR, nodupB, AD.slots, argD, argsD, outsS, tru, isTy, mutD, isLst, rb_ok, rb_ex, rs_ok, rs_ex, sb_nx, sb_rt, sb_ex, sm_nx, sm_rt, os_some, of_some, nx_ok, storeT, putS, putsS, canSt, n_sh, n_ow, n_no, slOf, ioSlots, powOk, b_add, b_sub, b_mul, b_fdiv, b_mod, b_pow, c_lt, c_le, c_gt, c_ge, c_eq, c_ne, g_list, g_tup, g_scrD, l_list, l_tup, l_scrD, l_sum, l_sumT, l_tupL, l_tupT, l_listL, l_listT, l_int, l_intB, l_abs, cd_l_law_cell, m0, hlt, hlt', m4, m5, m6, q1]
theorem den_take0 (n s : Int) (h0 : s ≠ 0) (hd : divOk s = true) : (feOf G3 cd_l_law_take).den [.list [.int n], .int s] = .ret (.int (n.fmod s)) [.list [.int (n.fdiv s)]] := by
  rw [fe_den, runD]
  simp -implicitDefEqProofs [fe_io, fe_fr, prot_nil, startS, outsOf, endR, evB, evS, ev, evT, evL, evO, evA, evP, evC, evI, op_var, lt_var, opE, late, late1, late2, lates, rdS, valS, itemsOf, onlyL, lockS, lkSlots, unlockS, lkOk_nil, noOwn, Tg.slots, wipeS, backS, callR, nodupB, AD.slots, argD, argsD, outsS, tru, isTy, mutD, isLst, rb_ok, rb_ex, rs_ok, rs_ex, sb_nx, sb_rt, sb_ex, sm_nx, sm_rt, os_some, of_some, nx_ok, storeT, putS, putsS, canSt, n_sh, n_ow, n_no, slOf, ioSlots, powOk, b_add, b_sub, b_mul, b_fdiv, b_mod, b_pow, c_lt, c_le, c_gt, c_ge, c_eq, c_ne, g_list, g_tup, g_scrD, l_list, l_tup, l_scrD, l_sum, l_sumT, l_tupL, l_tupT, l_listL, l_listT, l_int, l_intB, l_abs, cd_l_law_take, h0, hd, ixD]
theorem den_take (n s : Int) (h0 : s ≠ 0) (hd : divOk s = true) : (feOf G3 cd_l_law_take).den [.list [.int n], .int s] = .ret (.int (n.fmod s)) [.list [.int (n.fdiv s)]] := den_take0 n s h0 hd
theorem dv (s : Int) (h0 : s ≠ 0) (h1 : s.natAbs < 1073741824) : divOk s = true := divOk_s h0 h1
theorem dv9 : divOk 1000000000 = true := dv _ (by decide) (by omega)
theorem den_costs (n : Int) (w : Nat) (hw : w ≤ 5) : ∃ (cs : List Int) (m : Int), (feOf G4 cd_l_law_costs).den [.list [.int n], .int w] = .ret (.tuple (cs.map .int)) [.list [.int m]] ∧ cs.length = w ∧ ∀ c ∈ cs, c.natAbs < 2 ^ 64 := by
  obtain ⟨ys, m, q1, _, q2, q3⟩ := evLC_st (lks := []) (t := .one 2) (c := evC ⟨G4.con, G4.fn, [0]⟩ .nil) (f := ev ⟨G4.con, G4.fn, [0]⟩ fe_l_law_costs_1) (fun n : Int => [.ow (.list [.int n]), .sh (.int w), .no]) (fun _ n => (.int (n.fmod 19 - 9), n.fdiv 19)) (fun _ => True) ((List.range w).map fun k => PyData.int (k : Nat)) n trivial (fun _ _ => rfl) (fun d hd a _ => by
    refine ⟨trivial, ?_⟩
    have ht := den_take a 19 (by decide) (dv _ (by decide) (by omega))
    simp -implicitDefEqProofs [fe_io, fe_fr, prot_nil, startS, outsOf, endR, evB, evS, ev, evT, evL, evO, evA, evP, evC, evI, op_var, lt_var, opE, late, late1, late2, lates, rdS, valS, itemsOf, onlyL, lockS, lkSlots, unlockS, lkOk_nil, noOwn, Tg.slots, wipeS, backS, callR, nodupB, AD.slots, argD, argsD, outsS, tru, isTy, mutD, isLst, rb_ok, rb_ex, rs_ok, rs_ex, sb_nx, sb_rt, sb_ex, sm_nx, sm_rt, os_some, of_some, nx_ok, storeT, putS, putsS, canSt, n_sh, n_ow, n_no, slOf, ioSlots, powOk, b_add, b_sub, b_mul, b_fdiv, b_mod, b_pow, c_lt, c_le, c_gt, c_ge, c_eq, c_ne, g_list, g_tup, g_scrD, l_list, l_tup, l_scrD, l_sum, l_sumT, l_tupL, l_tupT, l_listL, l_listT, l_int, l_intB, l_abs, fe_l_law_costs_1, fn_l_law_costs_l_law_take, io_l_law_take, fr_l_law_take, ht])
  obtain ⟨cs, e1, e2, e3⟩ := ints_by (T := fun c => c.natAbs < 2 ^ 64) fun y hy => by
    obtain ⟨d, _, a, _, e⟩ := q3 y hy
    refine ⟨a.fmod 19 - 9, ?_, e⟩
    have h1 := Int.fmod_nonneg_of_pos a (b := 19) (by decide)
    have h3 := Int.fmod_lt_of_pos a (b := 19) (by decide)
    omega
  subst e1
  have z1 : w ≤ szl := szl_le (by omega)
  have z2 : smallI (w : Int) = true := small_n (by omega)
  refine ⟨cs, m, ?_, by rw [e2, q2]; simp, e3⟩
  rw [fe_den, runD]
  simp -implicitDefEqProofs [fe_io, fe_fr, prot_nil, startS, outsOf, endR, evB, evS, ev, evT, evL, evO, evA, evP, evC, evI, op_var, lt_var, opE, late, late1, late2, lates, rdS, valS, itemsOf, onlyL, lockS, lkSlots, unlockS, lkOk_nil, noOwn, Tg.slots, wipeS, backS, callR, nodupB, AD.slots, argD, argsD, outsS, tru, isTy, mutD, isLst, rb_ok, rb_ex, rs_ok, rs_ex, sb_nx, sb_rt, sb_ex, sm_nx, sm_rt, os_some, of_some, nx_ok, storeT, putS, putsS, canSt, n_sh, n_ow, n_no, slOf, ioSlots, powOk, b_add, b_sub, b_mul, b_fdiv, b_mod, b_pow, c_lt, c_le, c_gt, c_ge, c_eq, c_ne, g_list, g_tup, g_scrD, l_list, l_tup, l_scrD, l_sum, l_sumT, l_tupL, l_tupT, l_listL, l_listT, l_int, l_intB, l_abs, cd_l_law_costs, z1, z2, q1]
theorem den_lot (n : Int) (w : Nat) (hw : w ≤ 5) : ∃ (cs : List Int) (m : Int), (feOf G5 cd_l_law_lot).den [.list [.int n], .int w] = .ret (.tuple (cs.map .int)) [.list [.int m]] ∧ cs.length = w := by
  have z1 : w ≤ szl := szl_le (by omega)
  have z2 : smallI (w : Int) = true := small_n (by omega)
  have t4 := den_take n 4 (by decide) (dv _ (by decide) (by omega))
  have h1 := Int.fmod_nonneg_of_pos n (b := 4) (by decide)
  have h3 := Int.fmod_lt_of_pos n (b := 4) (by decide)
  have small : ∀ (way k : Int), (way = 0 ∧ k = 3) ∨ (way = 1 ∧ k = 6) ∨ (way = 2 ∧ k = 40) → ∀ n : Int, ∃ (cs : List Int) (m : Int), cs.length = w ∧ evLC [] (.one 3) (evC ⟨G5.con, G5.fn, [0]⟩ .nil) (ev ⟨G5.con, G5.fn, [0]⟩ fe_l_law_lot_1) ((List.range w).map fun k => PyData.int (k : Nat)) [.ow (.list [.int n]), .sh (.int w), .sh (.int way), .no] = .ok (cs.map .int) [.ow (.list [.int m]), .sh (.int w), .sh (.int way), .no] := by
    intro way k hk n
    obtain ⟨ys, m, q1, _, q2, q3⟩ := evLC_st (lks := []) (t := .one 3) (c := evC ⟨G5.con, G5.fn, [0]⟩ .nil) (f := ev ⟨G5.con, G5.fn, [0]⟩ fe_l_law_lot_1) (fun n : Int => [.ow (.list [.int n]), .sh (.int w), .sh (.int way), .no]) (fun _ n => (.int (n.fmod k), n.fdiv k)) (fun _ => True) ((List.range w).map fun k => PyData.int (k : Nat)) n trivial (fun _ _ => rfl) (fun d hd a _ => by
      refine ⟨trivial, ?_⟩
      rcases hk with ⟨rfl, rfl⟩ | ⟨rfl, rfl⟩ | ⟨rfl, rfl⟩
      · have ht := den_take a 3 (by decide) (dv _ (by decide) (by omega))
        simp -implicitDefEqProofs [fe_io, fe_fr, prot_nil, startS, outsOf, endR, evB, evS, ev, evT, evL, evO, evA, evP, evC, evI, op_var, lt_var, opE, late, late1, late2, lates, rdS, valS, itemsOf, onlyL, lockS, lkSlots, unlockS, lkOk_nil, noOwn, Tg.slots, wipeS, backS, callR, nodupB, AD.slots, argD, argsD, outsS, tru, isTy, mutD, isLst, rb_ok, rb_ex, rs_ok, rs_ex, sb_nx, sb_rt, sb_ex, sm_nx, sm_rt, os_some, of_some, nx_ok, storeT, putS, putsS, canSt, n_sh, n_ow, n_no, slOf, ioSlots, powOk, b_add, b_sub, b_mul, b_fdiv, b_mod, b_pow, c_lt, c_le, c_gt, c_ge, c_eq, c_ne, g_list, g_tup, g_scrD, l_list, l_tup, l_scrD, l_sum, l_sumT, l_tupL, l_tupT, l_listL, l_listT, l_int, l_intB, l_abs, fe_l_law_lot_1, fn_l_law_lot_l_law_take, io_l_law_take, fr_l_law_take, ht, szl]
      · have ht := den_take a 6 (by decide) (dv _ (by decide) (by omega))
        simp -implicitDefEqProofs [fe_io, fe_fr, prot_nil, startS, outsOf, endR, evB, evS, ev, evT, evL, evO, evA, evP, evC, evI, op_var, lt_var, opE, late, late1, late2, lates, rdS, valS, itemsOf, onlyL, lockS, lkSlots, unlockS, lkOk_nil, noOwn, Tg.slots, wipeS, backS, callR, nodupB, AD.slots, argD, argsD, outsS, tru, isTy, mutD, isLst, rb_ok, rb_ex, rs_ok, rs_ex, sb_nx, sb_rt, sb_ex, sm_nx, sm_rt, os_some, of_some, nx_ok, storeT, putS, putsS, canSt, n_sh, n_ow, n_no, slOf, ioSlots, powOk, b_add, b_sub, b_mul, b_fdiv, b_mod, b_pow, c_lt, c_le, c_gt, c_ge, c_eq, c_ne, g_list, g_tup, g_scrD, l_list, l_tup, l_scrD, l_sum, l_sumT, l_tupL, l_tupT, l_listL, l_listT, l_int, l_intB, l_abs, fe_l_law_lot_1, fn_l_law_lot_l_law_take, io_l_law_take, fr_l_law_take, ht, szl]
      · have ht := den_take a 40 (by decide) (dv _ (by decide) (by omega))
        simp -implicitDefEqProofs [fe_io, fe_fr, prot_nil, startS, outsOf, endR, evB, evS, ev, evT, evL, evO, evA, evP, evC, evI, op_var, lt_var, opE, late, late1, late2, lates, rdS, valS, itemsOf, onlyL, lockS, lkSlots, unlockS, lkOk_nil, noOwn, Tg.slots, wipeS, backS, callR, nodupB, AD.slots, argD, argsD, outsS, tru, isTy, mutD, isLst, rb_ok, rb_ex, rs_ok, rs_ex, sb_nx, sb_rt, sb_ex, sm_nx, sm_rt, os_some, of_some, nx_ok, storeT, putS, putsS, canSt, n_sh, n_ow, n_no, slOf, ioSlots, powOk, b_add, b_sub, b_mul, b_fdiv, b_mod, b_pow, c_lt, c_le, c_gt, c_ge, c_eq, c_ne, g_list, g_tup, g_scrD, l_list, l_tup, l_scrD, l_sum, l_sumT, l_tupL, l_tupT, l_listL, l_listT, l_int, l_intB, l_abs, fe_l_law_lot_1, fn_l_law_lot_l_law_take, io_l_law_take, fr_l_law_take, ht, szl])
    obtain ⟨cs, e1, e2, _⟩ := ints_by (T := fun _ => True) fun y hy => by
      obtain ⟨d, _, a, _, e⟩ := q3 y hy
      exact ⟨_, trivial, e⟩
    subst e1
    exact ⟨cs, m, by rw [e2, q2]; simp, q1⟩
  have big : ∀ n : Int, ∃ (cs : List Int) (m : Int), cs.length = w ∧ evLC [] (.one 3) (evC ⟨G5.con, G5.fn, [0]⟩ .nil) (ev ⟨G5.con, G5.fn, [0]⟩ fe_l_law_lot_2) ((List.range w).map fun k => PyData.int (k : Nat)) [.ow (.list [.int n]), .sh (.int w), .sh (.int 3), .no] = .ok (cs.map .int) [.ow (.list [.int m]), .sh (.int w), .sh (.int 3), .no] := by
    intro n
    obtain ⟨ys, m, q1, _, q2, q3⟩ := evLC_st (lks := []) (t := .one 3) (c := evC ⟨G5.con, G5.fn, [0]⟩ .nil) (f := ev ⟨G5.con, G5.fn, [0]⟩ fe_l_law_lot_2) (fun n : Int => [.ow (.list [.int n]), .sh (.int w), .sh (.int 3), .no]) (fun _ n => (.int (n.fmod 1000000000 * (if 0 < (n.fdiv 1000000000).fmod 3 then 1 else 0)), (n.fdiv 1000000000).fdiv 3)) (fun _ => True) ((List.range w).map fun k => PyData.int (k : Nat)) n trivial (fun _ _ => rfl) (fun d hd a _ => by
      refine ⟨trivial, ?_⟩
      have ht := den_take a 1000000000 (by decide) dv9
      have ht2 := den_take (a.fdiv 1000000000) 3 (by decide) (dv _ (by decide) (by omega))
      have mm : ∀ y : Int, mulOk (a.fmod 1000000000) y = true := fun y => mulOk_l (mod_small (by decide) (by decide))
      simp -implicitDefEqProofs [fe_io, fe_fr, prot_nil, startS, outsOf, endR, evB, evS, ev, evT, evL, evO, evA, evP, evC, evI, op_var, lt_var, opE, late, late1, late2, lates, rdS, valS, itemsOf, onlyL, lockS, lkSlots, unlockS, lkOk_nil, noOwn, Tg.slots, wipeS, backS, callR, nodupB, AD.slots, argD, argsD, outsS, tru, isTy, mutD, isLst, rb_ok, rb_ex, rs_ok, rs_ex, sb_nx, sb_rt, sb_ex, sm_nx, sm_rt, os_some, of_some, nx_ok, storeT, putS, putsS, canSt, n_sh, n_ow, n_no, slOf, ioSlots, powOk, b_add, b_sub, b_mul, b_fdiv, b_mod, b_pow, c_lt, c_le, c_gt, c_ge, c_eq, c_ne, g_list, g_tup, g_scrD, l_list, l_tup, l_scrD, l_sum, l_sumT, l_tupL, l_tupT, l_listL, l_listT, l_int, l_intB, l_abs, fe_l_law_lot_2, fn_l_law_lot_l_law_take, io_l_law_take, fr_l_law_take, ht, ht2, mm])
    obtain ⟨cs, e1, e2, _⟩ := ints_by (T := fun _ => True) fun y hy => by
      obtain ⟨d, _, a, _, e⟩ := q3 y hy
      exact ⟨_, trivial, e⟩
    subst e1
    exact ⟨cs, m, by rw [e2, q2]; simp, q1⟩
  rw [fe_den, runD]
  by_cases hw3 : n.fmod 4 = 3
  · rw [hw3] at t4
    obtain ⟨cs, m, e1, q1⟩ := big (n.fdiv 4)
    refine ⟨cs, m, ?_, e1⟩
    simp -implicitDefEqProofs [fe_io, fe_fr, prot_nil, startS, outsOf, endR, evB, evS, ev, evT, evL, evO, evA, evP, evC, evI, op_var, lt_var, opE, late, late1, late2, lates, rdS, valS, itemsOf, onlyL, lockS, lkSlots, unlockS, lkOk_nil, noOwn, Tg.slots, wipeS, backS, callR, nodupB, AD.slots, argD, argsD, outsS, tru, isTy, mutD, isLst, rb_ok, rb_ex, rs_ok, rs_ex, sb_nx, sb_rt, sb_ex, sm_nx, sm_rt, os_some, of_some, nx_ok, storeT, putS, putsS, canSt, n_sh, n_ow, n_no, slOf, ioSlots, powOk, b_add, b_sub, b_mul, b_fdiv, b_mod, b_pow, c_lt, c_le, c_gt, c_ge, c_eq, c_ne, g_list, g_tup, g_scrD, l_list, l_tup, l_scrD, l_sum, l_sumT, l_tupL, l_tupT, l_listL, l_listT, l_int, l_intB, l_abs, cd_l_law_lot, fn_l_law_lot_l_law_take, io_l_law_take, fr_l_law_take, t4, z1, z2, q1]
  · obtain ⟨k, hk⟩ : ∃ k, (n.fmod 4 = 0 ∧ k = 3) ∨ (n.fmod 4 = 1 ∧ k = 6) ∨ (n.fmod 4 = 2 ∧ k = (40 : Int)) := by
      have : n.fmod 4 = 0 ∨ n.fmod 4 = 1 ∨ n.fmod 4 = 2 := by omega
      rcases this with h | h | h
      · exact ⟨3, .inl ⟨h, rfl⟩⟩
      · exact ⟨6, .inr (.inl ⟨h, rfl⟩)⟩
      · exact ⟨40, .inr (.inr ⟨h, rfl⟩)⟩
    obtain ⟨cs, m, e1, q1⟩ := small (n.fmod 4) k hk (n.fdiv 4)
    refine ⟨cs, m, ?_, e1⟩
    simp -implicitDefEqProofs [fe_io, fe_fr, prot_nil, startS, outsOf, endR, evB, evS, ev, evT, evL, evO, evA, evP, evC, evI, op_var, lt_var, opE, late, late1, late2, lates, rdS, valS, itemsOf, onlyL, lockS, lkSlots, unlockS, lkOk_nil, noOwn, Tg.slots, wipeS, backS, callR, nodupB, AD.slots, argD, argsD, outsS, tru, isTy, mutD, isLst, rb_ok, rb_ex, rs_ok, rs_ex, sb_nx, sb_rt, sb_ex, sm_nx, sm_rt, os_some, of_some, nx_ok, storeT, putS, putsS, canSt, n_sh, n_ow, n_no, slOf, ioSlots, powOk, b_add, b_sub, b_mul, b_fdiv, b_mod, b_pow, c_lt, c_le, c_gt, c_ge, c_eq, c_ne, g_list, g_tup, g_scrD, l_list, l_tup, l_scrD, l_sum, l_sumT, l_tupL, l_tupT, l_listL, l_listT, l_int, l_intB, l_abs, cd_l_law_lot, fn_l_law_lot_l_law_take, io_l_law_take, fr_l_law_take, t4, hw3, z1, z2, q1]
/-- what a lot costs -/
def dot (cs ls : List Int) : Int := (List.zipWith (fun a b : Int => a * b) cs ls).sum
theorem den_cost (cs ls : List Int) (hc : ∀ c ∈ cs, c.natAbs < 2 ^ 64) (h1 : cs.length ≤ 5) : (feOf G0 cd_cost_of).den [.tuple (cs.map .int), .tuple (ls.map .int)] = .ret (.int (dot cs ls)) [] := by
  have q := evLC_map (lks := []) (t := .many [2, 3]) (c := evC ⟨G0.con, G0.fn, []⟩ .nil) (f := ev ⟨G0.con, G0.fn, []⟩ fe_cost_of_1) (S := [.sh (.tuple (cs.map .int)), .sh (.tuple (ls.map .int)), .no, .no]) mulP rfl (List.zipWith (fun x y => PyData.tuple [x, y]) (cs.map PyData.int) (ls.map PyData.int)) fun d hd => by
    obtain ⟨a, ha, b, hb, rfl⟩ := zip_mem hd
    have m1 : mulOk a b = true := mulOk_l (hc a ha)
    simp -implicitDefEqProofs [fe_io, fe_fr, prot_nil, startS, outsOf, endR, evB, evS, ev, evT, evL, evO, evA, evP, evC, evI, op_var, lt_var, opE, late, late1, late2, lates, rdS, valS, itemsOf, onlyL, lockS, lkSlots, unlockS, lkOk_nil, noOwn, Tg.slots, wipeS, backS, callR, nodupB, AD.slots, argD, argsD, outsS, tru, isTy, mutD, isLst, rb_ok, rb_ex, rs_ok, rs_ex, sb_nx, sb_rt, sb_ex, sm_nx, sm_rt, os_some, of_some, nx_ok, storeT, putS, putsS, canSt, n_sh, n_ow, n_no, slOf, ioSlots, powOk, b_add, b_sub, b_mul, b_fdiv, b_mod, b_pow, c_lt, c_le, c_gt, c_ge, c_eq, c_ne, g_list, g_tup, g_scrD, l_list, l_tup, l_scrD, l_sum, l_sumT, l_tupL, l_tupT, l_listL, l_listT, l_int, l_intB, l_abs, fe_cost_of_1, m1, mulP]
  rw [zip_mul] at q
  have e : List.zipWith (fun x y => PyData.tuple [x, y]) (cs.map PyData.int) (ls.map PyData.int) = List.zipWith (fun a b => PyData.tuple [.int a, .int b]) cs ls := by simp
  rw [e] at q
  have z : min cs.length ls.length ≤ szl := szl_le (by omega)
  rw [fe_den, runD]
  simp -implicitDefEqProofs [fe_io, fe_fr, prot_nil, startS, outsOf, endR, evB, evS, ev, evT, evL, evO, evA, evP, evC, evI, op_var, lt_var, opE, late, late1, late2, lates, rdS, valS, itemsOf, onlyL, lockS, lkSlots, unlockS, lkOk_nil, noOwn, Tg.slots, wipeS, backS, callR, nodupB, AD.slots, argD, argsD, outsS, tru, isTy, mutD, isLst, rb_ok, rb_ex, rs_ok, rs_ex, sb_nx, sb_rt, sb_ex, sm_nx, sm_rt, os_some, of_some, nx_ok, storeT, putS, putsS, canSt, n_sh, n_ow, n_no, slOf, ioSlots, powOk, b_add, b_sub, b_mul, b_fdiv, b_mod, b_pow, c_lt, c_le, c_gt, c_ge, c_eq, c_ne, g_list, g_tup, g_scrD, l_list, l_tup, l_scrD, l_sum, l_sumT, l_tupL, l_tupT, l_listL, l_listT, l_int, l_intB, l_abs, cd_cost_of, q, z, dot, l_sumZ]
theorem zeros (w : Nat) (hw : w ≤ 5) : binD .mul (.list [.int 0]) (.int w) = some (true, .list ((List.replicate w (0 : Int)).map .int)) := by
  have e : repD (w : Int) [PyData.int 0] = (List.replicate w (0 : Int)).map .int := by
    unfold repD
    rw [Int.toNat_natCast]
    clear hw
    induction w with
    | zero => rfl
    | succ w ih => rw [List.replicate_succ, List.flatten_cons, ih]; rfl
  simp only [binD]
  rw [if_pos, e]
  refine ⟨by omega, by omega, ?_⟩
  rw [Int.toNat_natCast]
  exact szl_le (by simp; omega)
theorem in1 (cs xs : List Int) (w : Nat) (hw : w ≤ 5) (h1 : cs.length = w) (h2 : xs.length = w) (hc : ∀ c ∈ cs, c.natAbs < 2 ^ 64) (a0 a1 a2 a5 a6 a7 a10 a11 : Sl) (n10 : nlk a10 = true) :
    ∃ b10, nlk b10 = true ∧ evFor [] [] (.one 10) (evB ⟨G6.con, G6.fn, []⟩ fb_law_1) ((List.range w).map fun k => PyData.int (k : Nat)) [a0, a1, a2, .sh (.int w), .sh (.tuple (cs.map .int)), a5, a6, a7, .sh (.tuple (xs.map .int)), .sh (.int 0), a10, a11] =
      .nx [a0, a1, a2, .sh (.int w), .sh (.tuple (cs.map .int)), a5, a6, a7, .sh (.tuple (xs.map .int)), .sh (.int (dot cs xs)), b10, a11] := by
  have q := evFor_inv (pr := []) (lks := []) (t := .one 10) (b := evB ⟨G6.con, G6.fn, []⟩ fb_law_1) (fun i S => ∃ b10, nlk b10 = true ∧ S = [a0, a1, a2, .sh (.int w), .sh (.tuple (cs.map .int)), a5, a6, a7, .sh (.tuple (xs.map .int)), .sh (.int (((List.zipWith (fun a b : Int => a * b) cs xs).take i).sum)), b10, a11]) ((List.range w).map fun k => PyData.int (k : Nat)) 0 [a0, a1, a2, .sh (.int w), .sh (.tuple (cs.map .int)), a5, a6, a7, .sh (.tuple (xs.map .int)), .sh (.int 0), a10, a11] ?_ (fun _ _ => rfl) ⟨a10, n10, by simp⟩
  · obtain ⟨S', q1, b10, q2, rfl⟩ := q
    refine ⟨b10, q2, ?_⟩
    rw [q1]
    have e : (List.zipWith (fun a b : Int => a * b) cs xs).take (0 + ((List.range w).map fun k => PyData.int (k : Nat)).length) = List.zipWith (fun a b : Int => a * b) cs xs := List.take_of_length_le (by simp; omega)
    rw [e]
    rfl
  · rintro i d S hd ⟨b10, q2, rfl⟩
    obtain ⟨hi, rfl⟩ := get_rng0 hd
    have i1 : i < cs.length := by omega
    have i2 : i < xs.length := by omega
    have e1 : (cs.map PyData.int)[i]? = some (.int cs[i]) := by rw [List.getElem?_map, List.getElem?_eq_getElem i1]; rfl
    have e2 : (xs.map PyData.int)[i]? = some (.int xs[i]) := by rw [List.getElem?_map, List.getElem?_eq_getElem i2]; rfl
    have mm : mulOk cs[i] xs[i] = true := mulOk_l (hc _ (List.getElem_mem i1))
    have es := sum_take (l := List.zipWith (fun a b : Int => a * b) cs xs) (i := i) (v := cs[i] * xs[i]) (by rw [List.getElem?_zipWith, List.getElem?_eq_getElem i1, List.getElem?_eq_getElem i2])
    refine ⟨rfl, ?_⟩
    rw [Nat.zero_add, es]
    simp -implicitDefEqProofs [fe_io, fe_fr, prot_nil, startS, outsOf, endR, evB, evS, ev, evT, evL, evO, evA, evP, evC, evI, op_var, lt_var, opE, late, late1, late2, lates, rdS, valS, itemsOf, onlyL, lockS, lkSlots, unlockS, lkOk_nil, noOwn, Tg.slots, wipeS, backS, callR, nodupB, AD.slots, argD, argsD, outsS, tru, isTy, mutD, isLst, rb_ok, rb_ex, rs_ok, rs_ex, sb_nx, sb_rt, sb_ex, sm_nx, sm_rt, os_some, of_some, nx_ok, storeT, putS, putsS, canSt, n_sh, n_ow, n_no, slOf, ioSlots, powOk, b_add, b_sub, b_mul, b_fdiv, b_mod, b_pow, c_lt, c_le, c_gt, c_ge, c_eq, c_ne, g_list, g_tup, g_scrD, l_list, l_tup, l_scrD, l_sum, l_sumT, l_tupL, l_tupT, l_listL, l_listT, l_int, l_intB, l_abs, fb_law_1, q2, i1, i2, mm]
theorem in2 (scr : D) (cs xs : List Int) (w : Nat) (hw : w ≤ 5) (h1 : cs.length = w) (h2 : xs.length = w) (hc : ∀ c ∈ cs, c.natAbs < 2 ^ 64) (a0 a1 a2 a5 a6 a7 a9 a10 a11 : Sl) (n9 : nlk a9 = true) (n10 : nlk a10 = true) (n11 : nlk a11 = true) :
    ∃ b9 b10 b11, nlk b9 = true ∧ nlk b10 = true ∧ nlk b11 = true ∧ evB ⟨G6.con, G6.fn, []⟩ fb_law_2 [a0, a1, a2, .sh (.int w), .sh (.tuple (cs.map .int)), a5, a6, a7, .sh (.tuple (xs.map .int)), a9, a10, a11] =
      .nx [a0, a1, a2, .sh (.int w), .sh (.tuple (cs.map .int)), a5, a6, a7, .sh (.tuple (xs.map .int)), b9, b10, b11] := by
  obtain ⟨b10, m10, q⟩ := in1 cs xs w hw h1 h2 hc a0 a1 a2 a5 a6 a7 a10 a11 n10
  have z2 : smallI (w : Int) = true := small_n (by omega)
  have hd := den_cost cs xs hc (by omega)
  refine ⟨.sh (.int (dot cs xs)), b10, .sh (.int (dot cs xs)), rfl, m10, rfl, ?_⟩
  simp -implicitDefEqProofs [fe_io, fe_fr, prot_nil, startS, outsOf, endR, evB, evS, ev, evT, evL, evO, evA, evP, evC, evI, op_var, lt_var, opE, late, late1, late2, lates, rdS, valS, itemsOf, onlyL, lockS, lkSlots, unlockS, lkOk_nil, noOwn, Tg.slots, wipeS, backS, callR, nodupB, AD.slots, argD, argsD, outsS, tru, isTy, mutD, isLst, rb_ok, rb_ex, rs_ok, rs_ex, sb_nx, sb_rt, sb_ex, sm_nx, sm_rt, os_some, of_some, nx_ok, storeT, putS, putsS, canSt, n_sh, n_ow, n_no, slOf, ioSlots, powOk, b_add, b_sub, b_mul, b_fdiv, b_mod, b_pow, c_lt, c_le, c_gt, c_ge, c_eq, c_ne, g_list, g_tup, g_scrD, l_list, l_tup, l_scrD, l_sum, l_sumT, l_tupL, l_tupT, l_listL, l_listT, l_int, l_intB, l_abs, fb_law_2, n9, n11, q, z2, fn_law_cost_of, io_cost_of, fr_cost_of, hd]
theorem in3 (scr : D) (cs : List Int) (xss : List (List Int)) (w : Nat) (hw : w ≤ 5) (h1 : cs.length = w) (h2 : ∀ xs ∈ xss, xs.length = w) (hc : ∀ c ∈ cs, c.natAbs < 2 ^ 64) (a0 a1 a2 a5 a6 a7 a8 a9 a10 a11 : Sl) (n8 : nlk a8 = true) (n9 : nlk a9 = true) (n10 : nlk a10 = true) (n11 : nlk a11 = true) :
    ∃ b8 b9 b10 b11, nlk b8 = true ∧ nlk b9 = true ∧ nlk b10 = true ∧ nlk b11 = true ∧ evFor [] [] (.one 8) (evB ⟨G6.con, G6.fn, []⟩ fb_law_2) (xss.map fun xs => PyData.tuple (xs.map .int)) [a0, a1, a2, .sh (.int w), .sh (.tuple (cs.map .int)), a5, a6, a7, a8, a9, a10, a11] =
      .nx [a0, a1, a2, .sh (.int w), .sh (.tuple (cs.map .int)), a5, a6, a7, b8, b9, b10, b11] := by
  have q := evFor_inv (pr := []) (lks := []) (t := .one 8) (b := evB ⟨G6.con, G6.fn, []⟩ fb_law_2) (fun i S => ∃ b8 b9 b10 b11, nlk b8 = true ∧ nlk b9 = true ∧ nlk b10 = true ∧ nlk b11 = true ∧ S = [a0, a1, a2, .sh (.int w), .sh (.tuple (cs.map .int)), a5, a6, a7, b8, b9, b10, b11]) (xss.map fun xs => PyData.tuple (xs.map .int)) 0 _ ?_ (fun _ _ => rfl) ⟨a8, a9, a10, a11, n8, n9, n10, n11, rfl⟩
  · obtain ⟨S', q1, b8, b9, b10, b11, m8, m9, m10, m11, rfl⟩ := q
    exact ⟨b8, b9, b10, b11, m8, m9, m10, m11, q1⟩
  · rintro i d S hd ⟨b8, b9, b10, b11, m8, m9, m10, m11, rfl⟩
    obtain ⟨xs, hx, rfl⟩ := List.mem_map.mp (List.mem_of_getElem? hd)
    obtain ⟨c9, c10, c11, k9, k10, k11, r⟩ := in2 scr cs xs w hw h1 (h2 xs hx) hc a0 a1 a2 a5 a6 a7 b9 b10 b11 m9 m10 m11
    refine ⟨rfl, _, _, ?_, r, _, c9, c10, c11, rfl, k9, k10, k11, rfl⟩
    simp -implicitDefEqProofs [fe_io, fe_fr, prot_nil, startS, outsOf, endR, evB, evS, ev, evT, evL, evO, evA, evP, evC, evI, op_var, lt_var, opE, late, late1, late2, lates, rdS, valS, itemsOf, onlyL, lockS, lkSlots, unlockS, lkOk_nil, noOwn, Tg.slots, wipeS, backS, callR, nodupB, AD.slots, argD, argsD, outsS, tru, isTy, mutD, isLst, rb_ok, rb_ex, rs_ok, rs_ex, sb_nx, sb_rt, sb_ex, sm_nx, sm_rt, os_some, of_some, nx_ok, storeT, putS, putsS, canSt, n_sh, n_ow, n_no, slOf, ioSlots, powOk, b_add, b_sub, b_mul, b_fdiv, b_mod, b_pow, c_lt, c_le, c_gt, c_ge, c_eq, c_ne, g_list, g_tup, g_scrD, l_list, l_tup, l_scrD, l_sum, l_sumT, l_tupL, l_tupT, l_listL, l_listT, l_int, l_intB, l_abs, m8]
theorem turn (w : Nat) (cs ls : List Int) (n : Int) (a0 a1 a6 a8 a9 a10 a11 : Sl) (wv : Sl) (cv : Sl) : ∃ (ts : List Int) (m : Int), ts.length = ls.length ∧ evLC [] (.one 7) (evC ⟨G6.con, G6.fn, []⟩ .nil) (ev ⟨G6.con, G6.fn, []⟩ fe_law_3) (ls.map .int) [a0, a1, .ow (.list [.int n]), wv, cv, .sh (.tuple (ls.map .int)), a6, .no, a8, a9, a10, a11] =
    .ok (ts.map .int) [a0, a1, .ow (.list [.int m]), wv, cv, .sh (.tuple (ls.map .int)), a6, .no, a8, a9, a10, a11] := by
  obtain ⟨ys, m, q1, _, q2, q3⟩ := evLC_st (lks := []) (t := .one 7) (c := evC ⟨G6.con, G6.fn, []⟩ .nil) (f := ev ⟨G6.con, G6.fn, []⟩ fe_law_3) (fun n : Int => [a0, a1, .ow (.list [.int n]), wv, cv, .sh (.tuple (ls.map .int)), a6, .no, a8, a9, a10, a11]) (fun d n => (match d with
    | .int v => .int (v * (if n.fmod 2 = 0 then 1 else -1))
    | d => .int 0, n.fdiv 2)) (fun _ => True) (ls.map .int) n trivial (fun _ _ => rfl) (fun d hd a _ => by
      refine ⟨trivial, ?_⟩
      obtain ⟨v, _, rfl⟩ := List.mem_map.mp hd
      have ht := den_take a 2 (by decide) (dv _ (by decide) (by omega))
      have h1 := Int.fmod_nonneg_of_pos a (b := 2) (by decide)
      have h3 := Int.fmod_lt_of_pos a (b := 2) (by decide)
      have h01 : a.fmod 2 = 0 ∨ a.fmod 2 = 1 := by omega
      have m1 : mulOk v 1 = true := mulOk_r (by decide)
      have m2 : mulOk v (-1) = true := mulOk_r (by decide)
      rcases h01 with h | h
      · rw [h] at ht
        simp -implicitDefEqProofs [fe_io, fe_fr, prot_nil, startS, outsOf, endR, evB, evS, ev, evT, evL, evO, evA, evP, evC, evI, op_var, lt_var, opE, late, late1, late2, lates, rdS, valS, itemsOf, onlyL, lockS, lkSlots, unlockS, lkOk_nil, noOwn, Tg.slots, wipeS, backS, callR, nodupB, AD.slots, argD, argsD, outsS, tru, isTy, mutD, isLst, rb_ok, rb_ex, rs_ok, rs_ex, sb_nx, sb_rt, sb_ex, sm_nx, sm_rt, os_some, of_some, nx_ok, storeT, putS, putsS, canSt, n_sh, n_ow, n_no, slOf, ioSlots, powOk, b_add, b_sub, b_mul, b_fdiv, b_mod, b_pow, c_lt, c_le, c_gt, c_ge, c_eq, c_ne, g_list, g_tup, g_scrD, l_list, l_tup, l_scrD, l_sum, l_sumT, l_tupL, l_tupT, l_listL, l_listT, l_int, l_intB, l_abs, fe_law_3, fn_law_l_law_take, io_l_law_take, fr_l_law_take, ht, h, m1, m2, szl]
      · rw [h] at ht
        simp -implicitDefEqProofs [fe_io, fe_fr, prot_nil, startS, outsOf, endR, evB, evS, ev, evT, evL, evO, evA, evP, evC, evI, op_var, lt_var, opE, late, late1, late2, lates, rdS, valS, itemsOf, onlyL, lockS, lkSlots, unlockS, lkOk_nil, noOwn, Tg.slots, wipeS, backS, callR, nodupB, AD.slots, argD, argsD, outsS, tru, isTy, mutD, isLst, rb_ok, rb_ex, rs_ok, rs_ex, sb_nx, sb_rt, sb_ex, sm_nx, sm_rt, os_some, of_some, nx_ok, storeT, putS, putsS, canSt, n_sh, n_ow, n_no, slOf, ioSlots, powOk, b_add, b_sub, b_mul, b_fdiv, b_mod, b_pow, c_lt, c_le, c_gt, c_ge, c_eq, c_ne, g_list, g_tup, g_scrD, l_list, l_tup, l_scrD, l_sum, l_sumT, l_tupL, l_tupT, l_listL, l_listT, l_int, l_intB, l_abs, fe_law_3, fn_law_l_law_take, io_l_law_take, fr_l_law_take, ht, h, m1, m2, szl])
  obtain ⟨ts, e1, e2, _⟩ := ints_by (T := fun _ => True) fun y hy => by
    obtain ⟨d, hd, a, _, e⟩ := q3 y hy
    obtain ⟨v, _, rfl⟩ := List.mem_map.mp hd
    exact ⟨_, trivial, e⟩
  subst e1
  exact ⟨ts, m, by rw [e2, q2]; simp, q1⟩
theorem in4 (ns : List Int) (k : Nat) (hk : k < 8) (a2 a3 a4 a5 a6 a8 a9 a10 a11 : Sl) (n2 : nlk a2 = true) (n3 : nlk a3 = true) (n4 : nlk a4 = true) (n5 : nlk a5 = true) (n6 : nlk a6 = true) (n8 : nlk a8 = true) (n9 : nlk a9 = true) (n10 : nlk a10 = true) (n11 : nlk a11 = true) :
    ∃ b2 b3 b4 b5 b6 b8 b9 b10 b11, nlk b2 = true ∧ nlk b3 = true ∧ nlk b4 = true ∧ nlk b5 = true ∧ nlk b6 = true ∧ nlk b8 = true ∧ nlk b9 = true ∧ nlk b10 = true ∧ nlk b11 = true ∧
      evB ⟨G6.con, G6.fn, []⟩ fb_law_4 [.sh (scrD ns), .sh (.int k), a2, a3, a4, a5, a6, .no, a8, a9, a10, a11] = .nx [.sh (scrD ns), .sh (.int k), b2, b3, b4, b5, b6, .no, b8, b9, b10, b11] := by
  obtain ⟨r, hr⟩ := den_cell ns k (by omega)
  have t5 := den_take r 5 (by decide) (dv _ (by decide) (by omega))
  have f1 := Int.fmod_nonneg_of_pos r (b := 5) (by decide)
  have f3 := Int.fmod_lt_of_pos r (b := 5) (by decide)
  obtain ⟨w, hw⟩ : ∃ w : Nat, 1 + r.fmod 5 = (w : Int) := ⟨(1 + r.fmod 5).toNat, by omega⟩
  have hw5 : w ≤ 5 := by omega
  obtain ⟨cs, m1, hcs, lcs, bcs⟩ := den_costs (r.fdiv 5) w hw5
  obtain ⟨ls, m2, hls, lls⟩ := den_lot m1 w hw5
  obtain ⟨ts, m3, lts, q⟩ := turn w cs ls m2 (.sh (scrD ns)) (.sh (.int k)) a6 a8 a9 a10 a11 (.sh (.int w)) (.sh (.tuple (cs.map .int)))
  obtain ⟨b8, b9, b10, b11, m8, m9, m10, m11, q2⟩ := in3 .none cs [ls, ts, List.replicate w 0] w hw5 lcs (by
    intro xs hx
    simp only [List.mem_cons, List.not_mem_nil, or_false] at hx
    rcases hx with rfl | rfl | rfl
    · exact lls
    · omega
    · simp) bcs (.sh (scrD ns)) (.sh (.int k)) (.ow (.list [.int m3])) (.sh (.tuple (ls.map .int))) (.sh (.tuple (ts.map .int))) .no a8 a9 a10 a11 n8 n9 n10 n11
  have z := zeros w hw5
  have zl : ls.length ≤ 16777216 := by omega
  simp only [List.map_cons, List.map_nil, List.map_replicate] at q2 z
  refine ⟨.ow (.list [.int m3]), .sh (.int w), .sh (.tuple (cs.map .int)), .sh (.tuple (ls.map .int)), .sh (.tuple (ts.map .int)), b8, b9, b10, b11, rfl, rfl, rfl, rfl, rfl, m8, m9, m10, m11, ?_⟩
  simp -implicitDefEqProofs [fe_io, fe_fr, prot_nil, startS, outsOf, endR, evB, evS, ev, evT, evL, evO, evA, evP, evC, evI, op_var, lt_var, opE, late, late1, late2, lates, rdS, valS, itemsOf, onlyL, lockS, lkSlots, unlockS, lkOk_nil, noOwn, Tg.slots, wipeS, backS, callR, nodupB, AD.slots, argD, argsD, outsS, tru, isTy, mutD, isLst, rb_ok, rb_ex, rs_ok, rs_ex, sb_nx, sb_rt, sb_ex, sm_nx, sm_rt, os_some, of_some, nx_ok, storeT, putS, putsS, canSt, n_sh, n_ow, n_no, slOf, ioSlots, powOk, b_add, b_sub, b_mul, b_fdiv, b_mod, b_pow, c_lt, c_le, c_gt, c_ge, c_eq, c_ne, g_list, g_tup, g_scrD, l_list, l_tup, l_scrD, l_sum, l_sumT, l_tupL, l_tupT, l_listL, l_listT, l_int, l_intB, l_abs, fb_law_4, fn_law_l_law_cell, fn_law_l_law_take, fn_law_l_law_costs, fn_law_l_law_lot, io_l_law_cell, io_l_law_take, io_l_law_costs, io_l_law_lot, fr_l_law_cell, fr_l_law_take, fr_l_law_costs, fr_l_law_lot, hr, t5, hw, hcs, hls, q, q2, z, zl, n2, n3, n4, n5, n6, n8, n9, n10, n11, szl]
theorem plain_law (ns : List Int) (hl : ns.length ≤ 63) : (feOf G6 cd_law).den [scrD ns] = .ret (.bool true) [] := by
  have q := evFor_inv (pr := []) (lks := []) (t := .one 1) (b := evB ⟨G6.con, G6.fn, []⟩ fb_law_4) (fun i S => ∃ b1 b2 b3 b4 b5 b6 b8 b9 b10 b11, nlk b1 = true ∧ nlk b2 = true ∧ nlk b3 = true ∧ nlk b4 = true ∧ nlk b5 = true ∧ nlk b6 = true ∧ nlk b8 = true ∧ nlk b9 = true ∧ nlk b10 = true ∧ nlk b11 = true ∧ S = [.sh (scrD ns), b1, b2, b3, b4, b5, b6, .no, b8, b9, b10, b11]) ((List.range 8).map fun k => PyData.int (k : Nat)) 0 [.sh (scrD ns), .no, .no, .no, .no, .no, .no, .no, .no, .no, .no, .no] ?_ (fun _ _ => rfl) ⟨.no, .no, .no, .no, .no, .no, .no, .no, .no, .no, rfl, rfl, rfl, rfl, rfl, rfl, rfl, rfl, rfl, rfl, rfl⟩
  · obtain ⟨S', q1, b1, b2, b3, b4, b5, b6, b8, b9, b10, b11, m1, m2, m3, m4, m5, m6, m8, m9, m10, m11, rfl⟩ := q
    have m0 : smallI 8 = true := by decide +kernel
    rw [fe_den, runD]
    simp -implicitDefEqProofs [fe_io, fe_fr, prot_nil, startS, outsOf, endR, evB, evS, ev, evT, evL, evO, evA, evP, evC, evI, op_var, lt_var, opE, late, late1, late2, lates, rdS, valS, itemsOf, onlyL, lockS, lkSlots, unlockS, lkOk_nil, noOwn, Tg.slots, wipeS, backS, callR, nodupB, AD.slots, argD, argsD, outsS, tru, isTy, mutD, isLst, rb_ok, rb_ex, rs_ok, rs_ex, sb_nx, sb_rt, sb_ex, sm_nx, sm_rt, os_some, of_some, nx_ok, storeT, putS, putsS, canSt, n_sh, n_ow, n_no, slOf, ioSlots, powOk, b_add, b_sub, b_mul, b_fdiv, b_mod, b_pow, c_lt, c_le, c_gt, c_ge, c_eq, c_ne, g_list, g_tup, g_scrD, l_list, l_tup, l_scrD, l_sum, l_sumT, l_tupL, l_tupT, l_listL, l_listT, l_int, l_intB, l_abs, cd_law, m0, q1]
  · rintro i d S hd ⟨b1, b2, b3, b4, b5, b6, b8, b9, b10, b11, m1, m2, m3, m4, m5, m6, m8, m9, m10, m11, rfl⟩
    obtain ⟨hi, rfl⟩ := get_rng0 hd
    obtain ⟨c2, c3, c4, c5, c6, c8, c9, c10, c11, k2, k3, k4, k5, k6, k8, k9, k10, k11, r⟩ := in4 ns i hi b2 b3 b4 b5 b6 b8 b9 b10 b11 m2 m3 m4 m5 m6 m8 m9 m10 m11
    refine ⟨rfl, _, _, ?_, r, .sh (.int i), c2, c3, c4, c5, c6, c8, c9, c10, c11, rfl, k2, k3, k4, k5, k6, k8, k9, k10, k11, rfl⟩
    simp -implicitDefEqProofs [fe_io, fe_fr, prot_nil, startS, outsOf, endR, evB, evS, ev, evT, evL, evO, evA, evP, evC, evI, op_var, lt_var, opE, late, late1, late2, lates, rdS, valS, itemsOf, onlyL, lockS, lkSlots, unlockS, lkOk_nil, noOwn, Tg.slots, wipeS, backS, callR, nodupB, AD.slots, argD, argsD, outsS, tru, isTy, mutD, isLst, rb_ok, rb_ex, rs_ok, rs_ex, sb_nx, sb_rt, sb_ex, sm_nx, sm_rt, os_some, of_some, nx_ok, storeT, putS, putsS, canSt, n_sh, n_ow, n_no, slOf, ioSlots, powOk, b_add, b_sub, b_mul, b_fdiv, b_mod, b_pow, c_lt, c_le, c_gt, c_ge, c_eq, c_ne, g_list, g_tup, g_scrD, l_list, l_tup, l_scrD, l_sum, l_sumT, l_tupL, l_tupT, l_listL, l_listT, l_int, l_intB, l_abs, m1]
end Lw

set_option Elab.async false
set_option linter.all false
set_option maxRecDepth 100000
set_option maxHeartbeats 8000000
set_option autoImplicit false
namespace Lw
open PySem PySem.Spec PyProof.Rows L2 Ev
section
variable {K : PySem.W.Frag} {h : Heap} {mg : Str → Option Value}
theorem all_mk {pg : Program} {w : World} {cl : Nat → Addr} {fa f0 f1 f2 f3 f4 f5 f6 : Addr} (X : K.In h) (G : h.Ns mainGlobals mg) (hfa : mg "law" = some (.ref fa))
    {od0 an0 od1 an1 od2 an2 od3 an3 od4 an4 od5 an5 od6 an6 : Option Addr} {sl0 sl1 sl2 sl3 sl4 sl5 sl6 : Array (Option Value)} {oc0 kV0 dc0 pm0 cd0 ct0 oc1 kV1 dc1 pm1 cd1 ct1 oc2 kV2 dc2 pm2 cd2 ct2 oc3 kV3 dc3 pm3 cd3 ct3 oc4 kV4 dc4 pm4 cd4 ct4 oc5 kV5 dc5 pm5 cd5 ct5 oc6 kV6 dc6 pm6 cd6 ct6 : Value}
    (a0 : PySem.W.nsIn K mainGlobals "cost_of" = some (some (.ref f0))) (l0 : K.lookup f0 = some ⟨oc0, od0, .func (PySem.W.fnOf "cost_of" "cost_of" (defArgs (top 1)) (defBody (top 1)) (defScope (top 1)) .none kV0 dc0 pm0 an0 cd0 ct0), sl0⟩) (c0 : PySem.W.codeIn K cd0 "cost_of" = true) (k0 : PySem.W.keepIn K (.ref f0) = true)
    (a1 : PySem.W.nsIn K mainGlobals "_law_mixed" = some (some (.ref f1))) (l1 : K.lookup f1 = some ⟨oc1, od1, .func (PySem.W.fnOf "_law_mixed" "_law_mixed" (defArgs (top 3)) (defBody (top 3)) (defScope (top 3)) .none kV1 dc1 pm1 an1 cd1 ct1), sl1⟩) (c1 : PySem.W.codeIn K cd1 "_law_mixed" = true) (k1 : PySem.W.keepIn K (.ref f1) = true)
    (a2 : PySem.W.nsIn K mainGlobals "_law_cell" = some (some (.ref f2))) (l2 : K.lookup f2 = some ⟨oc2, od2, .func (PySem.W.fnOf "_law_cell" "_law_cell" (defArgs (top 4)) (defBody (top 4)) (defScope (top 4)) .none kV2 dc2 pm2 an2 cd2 ct2), sl2⟩) (c2 : PySem.W.codeIn K cd2 "_law_cell" = true) (k2 : PySem.W.keepIn K (.ref f2) = true)
    (a3 : PySem.W.nsIn K mainGlobals "_law_take" = some (some (.ref f3))) (l3 : K.lookup f3 = some ⟨oc3, od3, .func (PySem.W.fnOf "_law_take" "_law_take" (defArgs (top 5)) (defBody (top 5)) (defScope (top 5)) .none kV3 dc3 pm3 an3 cd3 ct3), sl3⟩) (c3 : PySem.W.codeIn K cd3 "_law_take" = true) (k3 : PySem.W.keepIn K (.ref f3) = true)
    (a4 : PySem.W.nsIn K mainGlobals "_law_costs" = some (some (.ref f4))) (l4 : K.lookup f4 = some ⟨oc4, od4, .func (PySem.W.fnOf "_law_costs" "_law_costs" (defArgs (top 6)) (defBody (top 6)) (defScope (top 6)) .none kV4 dc4 pm4 an4 cd4 ct4), sl4⟩) (c4 : PySem.W.codeIn K cd4 "_law_costs" = true) (k4 : PySem.W.keepIn K (.ref f4) = true)
    (a5 : PySem.W.nsIn K mainGlobals "_law_lot" = some (some (.ref f5))) (l5 : K.lookup f5 = some ⟨oc5, od5, .func (PySem.W.fnOf "_law_lot" "_law_lot" (defArgs (top 7)) (defBody (top 7)) (defScope (top 7)) .none kV5 dc5 pm5 an5 cd5 ct5), sl5⟩) (c5 : PySem.W.codeIn K cd5 "_law_lot" = true) (k5 : PySem.W.keepIn K (.ref f5) = true)
    (a6 : PySem.W.nsIn K mainGlobals "law" = some (some (.ref f6))) (l6 : K.lookup f6 = some ⟨oc6, od6, .func (PySem.W.fnOf "law" "law" (defArgs (top 8)) (defBody (top 8)) (defScope (top 8)) .none kV6 dc6 pm6 an6 cd6 ct6), sl6⟩) (c6 : PySem.W.codeIn K cd6 "law" = true) (k6 : PySem.W.keepIn K (.ref f6) = true)
    (z0 : PySem.W.nsIn K mainGlobals "bool" = some none)
    (z1 : PySem.W.nsIn K mainGlobals "int" = some none)
    (z2 : PySem.W.nsIn K mainGlobals "isinstance" = some none)
    (z3 : PySem.W.nsIn K mainGlobals "len" = some none)
    (z4 : PySem.W.nsIn K mainGlobals "range" = some none)
    (z5 : PySem.W.nsIn K mainGlobals "sum" = some none)
    (z6 : PySem.W.nsIn K mainGlobals "tuple" = some none)
    (z7 : PySem.W.nsIn K mainGlobals "zip" = some none)
    : ∃ fd : FuncData, (∀ (s : Shared) (v : Value), BindsTo s fd ⟨[v], []⟩ [("_law_script", v)]) ∧ ∀ base : Heap, K.In base → base.Ns mainGlobals mg → FnG pg w K mg base 7 fa fd ["_law_script"] (spF ⟨K, cl⟩ (feOf G6 cd_law)) := by
  have e := hfa.symm.trans (PySem.W.mg_of X G a6)
  cases e
  refine ⟨PySem.W.fnOf "law" "law" (defArgs (top 8)) (defBody (top 8)) (defScope (top 8)) .none kV6 dc6 pm6 an6 cd6 ct6, fun s v => .of_eq rfl, fun base _ _ => ?_⟩
  have w0 : Wd ⟨K, cl⟩ pg w mg base G0 T0 0 := by
    refine ⟨fun x hx => ?_, fun i x hx => by simp [T0] at hx, fun i x io hx => by simp [T0] at hx, fun c x hx => by simp [T0] at hx⟩
    simp only [T0, bls, List.mem_cons, List.not_mem_nil, or_false] at hx
    rcases hx with rfl | rfl | rfl | rfl | rfl | rfl | rfl | rfl
    · exact PySem.W.mg_none_of X G z0
    · exact PySem.W.mg_none_of X G z1
    · exact PySem.W.mg_none_of X G z2
    · exact PySem.W.mg_none_of X G z3
    · exact PySem.W.mg_none_of X G z4
    · exact PySem.W.mg_none_of X G z5
    · exact PySem.W.mg_none_of X G z6
    · exact PySem.W.mg_none_of X G z7
  have F0 := fun_mk (st := top 1) l0 c0 k0
  have w1 : Wd ⟨K, cl⟩ pg w mg base G1 T1 1 := Wd.step w0 F0 (PySem.W.mg_of X G a0) (F0.binds (ps := ps_cost_of) fun _ _ _ _ _ _ us hl => match us, hl with | [_, _], _ => rfl) rfl ck_cost_of
  have F1 := fun_mk (st := top 3) l1 c1 k1
  have w2 : Wd ⟨K, cl⟩ pg w mg base G2 T2 2 := Wd.step w1 F1 (PySem.W.mg_of X G a1) (F1.binds (ps := ps_l_law_mixed) fun _ _ _ _ _ _ us hl => match us, hl with | [_, _], _ => rfl) rfl ck_l_law_mixed
  have F2 := fun_mk (st := top 4) l2 c2 k2
  have w3 : Wd ⟨K, cl⟩ pg w mg base G3 T3 3 := Wd.step w2 F2 (PySem.W.mg_of X G a2) (F2.binds (ps := ps_l_law_cell) fun _ _ _ _ _ _ us hl => match us, hl with | [_, _], _ => rfl) rfl ck_l_law_cell
  have F3 := fun_mk (st := top 5) l3 c3 k3
  have w4 : Wd ⟨K, cl⟩ pg w mg base G4 T4 4 := Wd.step w3 F3 (PySem.W.mg_of X G a3) (F3.binds (ps := ps_l_law_take) fun _ _ _ _ _ _ us hl => match us, hl with | [_, _], _ => rfl) rfl ck_l_law_take
  have F4 := fun_mk (st := top 6) l4 c4 k4
  have w5 : Wd ⟨K, cl⟩ pg w mg base G5 T5 5 := Wd.step w4 F4 (PySem.W.mg_of X G a4) (F4.binds (ps := ps_l_law_costs) fun _ _ _ _ _ _ us hl => match us, hl with | [_, _], _ => rfl) rfl ck_l_law_costs
  have F5 := fun_mk (st := top 7) l5 c5 k5
  have w6 : Wd ⟨K, cl⟩ pg w mg base G6 T6 6 := Wd.step w5 F5 (PySem.W.mg_of X G a5) (F5.binds (ps := ps_l_law_lot) fun _ _ _ _ _ _ us hl => match us, hl with | [_, _], _ => rfl) rfl ck_l_law_lot
  have F6 := fun_mk (st := top 8) l6 c6 k6
  have hc := ck_law
  simp only [Bool.and_eq_true, decide_eq_true_eq] at hc
  exact fn_sound w6 F6 hc.1.1.1.1 hc.1.1.1.2 hc.1.1.2 hc.1.2 hc.2
end
end Lw
open PySem PySem.W PyProof.Rows
set_option maxHeartbeats 0 in
theorem PySem.Challenge.cw_leastlots_k50_what_lots_cost_holds : PySem.Challenge.rw_leastlots_k50_what_lots_cost.Holds := by
  w_on; o_law; k_head; (case hw => w_witness2)
  k_fill
  refine Ev.walk_in (l := PySem.Challenge.rw_leastlots_k50_what_lots_cost) (n := 63) (k := 7) (x := "_law_script") (cl := fun _ _ => 0) (fe := fun _ => Ev.feOf Lw.G6 Lw.cd_law) rfl (by decide) rfl ⟨rfl, by decide, by decide⟩ (fun w h Y => PySem.W.kIn_of Y) ?F (fun _ => ⟨rfl, rfl, fun ns hl => Lw.plain_law ns hl⟩)
  case F =>
    intro w mg fa h KX G hmg
    refine' Lw.all_mk KX G hmg ?a0 ?l0 ?c0 ?k0 ?a1 ?l1 ?c1 ?k1 ?a2 ?l2 ?c2 ?k2 ?a3 ?l3 ?c3 ?k3 ?a4 ?l4 ?c4 ?k4 ?a5 ?l5 ?c5 ?k5 ?a6 ?l6 ?c6 ?k6 ?z0 ?z1 ?z2 ?z3 ?z4 ?z5 ?z6 ?z7
    (case a0 => k_is)
    (case l0 => k_is)
    (case c0 => k_is)
    (case k0 => k_is)
    (case a1 => k_is)
    (case l1 => k_is)
    (case c1 => k_is)
    (case k1 => k_is)
    (case a2 => k_is)
    (case l2 => k_is)
    (case c2 => k_is)
    (case k2 => k_is)
    (case a3 => k_is)
    (case l3 => k_is)
    (case c3 => k_is)
    (case k3 => k_is)
    (case a4 => k_is)
    (case l4 => k_is)
    (case c4 => k_is)
    (case k4 => k_is)
    (case a5 => k_is)
    (case l5 => k_is)
    (case c5 => k_is)
    (case k5 => k_is)
    (case a6 => k_is)
    (case l6 => k_is)
    (case c6 => k_is)
    (case k6 => k_is)
    (case z0 => k_is)
    (case z1 => k_is)
    (case z2 => k_is)
    (case z3 => k_is)
    (case z4 => k_is)
    (case z5 => k_is)
    (case z6 => k_is)
    (case z7 => k_is)
