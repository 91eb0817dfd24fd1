import PyProof.Rows.All
import Wide.All
import OpenK.AllK
import Wide.FinOn
import HandS.ForMost
import HandS.Wide
import HandS.Walk
import HandS.Conv
import HandS.Zip
import HandS.TupAny
import HandS.Exc
import HandS.ExcOwn
import HandS.WordsExc
import HandS.ExcCtx
import HandS.HotCalls
import HandS.ExcIs
import KE.SortData
import HandS.Text
import HandS.FStr
import HandS.More
import HandS.IsInst
import HandS.SortInts
import HandS.Style
import HandS.TupLe
import KE.KDictSum
import KE.KDictCopyH
import KE.KDictKeyed
import HandS.TupSets
import HandS.Dict
import HandS.Iter
import HandS.Rev
import PyProof.ListNew
import HandS.Strs
import HandS.SetFor
import HandS.WideBits
import KE.GoesMore
import HandS.NoneIn
import HandS.Codes
import PySem.Challenge.RW_rookborders_k61_sums_parted
set_option Elab.async false
set_option linter.all false
set_option maxRecDepth 100000
set_option maxHeartbeats 4000000
/-! Rk, part A: a small language of values (no heap): its programs and what they compute. -/
namespace Rk
open PySem
abbrev D := PyData
/-- a slot: empty, a value that is not changed any more, an own list or dict, the same while it is walked -/
inductive Sl where
  | un | fz (d : D) | ow (d : D) | lk (d : D)
abbrev Ro := List Sl
/-- what an expression gives: a value, the thing that stands in a slot, a new list or dict -/
inductive RV where
  | fz (d : D) | pk (i : Nat) | fr (d : D)
inductive O (α : Type) where
  | no | ok (a : α) (r : Ro) | ex (c : String) (r : Ro)
def O.bind {α β : Type} (x : O α) (f : α → Ro → O β) : O β := match x with
  | .no => .no
  | .ok a r => f a r
  | .ex c r => .ex c r
def O.lift {α : Type} (x : Option α) (r : Ro) : O α := match x with
  | none => .no
  | some a => .ok a r
inductive Arg where
  | fz (d : D) | ow (d : D)
def Arg.d : Arg → D
  | .fz d => d
  | .ow d => d
def Arg.sl : Arg → Sl
  | .fz d => .fz d
  | .ow d => .ow d
def Arg.isOw : Arg → Bool
  | .fz _ => false
  | .ow _ => true
inductive Out where
  | val (a : Arg) | ex (c : String)
abbrev Fn := List Arg → Option (Out × List Arg)
abbrev Cl := String → Option Fn

inductive BOp where
  | add | sub | mul | mod | fdiv | pow | shl | shr | and | xor
inductive COp where
  | eq | ne | lt | le | gt | ge | isIn | notIn | isN | notN | isB
inductive Kd where
  | int | bool | tuple | list | str
inductive BI where
  | len | abs | min2 | max2 | toInt | toStr | toList | toTuple | sum | all | any | sorted | maxL | minL | bool | toDict | anyI
inductive MT where
  | index | count | get
/-- methods of texts, one argument -/
inductive SM where
  | join | split | startswith | count
inductive MU where
  | append | pop | popAt | insert | clear | reverse | remove
inductive Tg where
  | nm (i : Nat) | t2 (a b : Tg) | t3 (a b c : Tg) | t4 (a b c d : Tg)
mutual
inductive E where
  | var (i : Nat)
  | lit (d : D)
  | bin (op : BOp) (a b : E)
  | neg (a : E)
  | cmp (op : COp) (a b : E)
  | chain (op op' : COp) (a b c : E)
  | and (a b : E)
  | or (a b : E)
  | not (a : E)
  | ife (c a b : E)
  | tup (es : Es)
  | lst (es : Es)
  | idx (a b : E)
  | cut (a lo hi : E)
  | cutL (a lo : E)
  | cutH (a hi : E)
  | cutA (a : E)
  | rev (a : E)
  | revC (a : E)
  | lset (a : E)
  | bits (a : E)
  | call (f : String) (es : Es)
  | bi (b : BI) (es : Es)
  | isi (k : Kd) (a : E)
  | met (m : MT) (a : E) (es : Es)
  | mu (m : MU) (i : Nat) (es : Es)
  | ext (i : Nat) (e : E)
  | comp (own : List Nat) (elt : E) (tg : Tg) (it : It) (cs : Es)
  | lrng (es : Es)
  | dnew (t : Bool)
  | dget (k1 v1 k2 v2 x y : E)
  | inr (neg : Bool) (x n : E)
  | sm (m : SM) (a e : E)
  | fstr (es : Es)
  | gc (k : Nat)
inductive Es where
  | nil
  | cons (e : E) (es : Es)
inductive It where
  | seq (e : E)
  | rng (es : Es)
  | enum (e : E)
  | zip (a b : E)
end
inductive Fl where
  | nx | bk | ct | rt (a : Arg)
mutual
inductive S where
  | asg (i : Nat) (e : E)
  | unp (tg : Tg) (e : E)
  | par (i j : Nat) (a b : E)
  | par3 (i j l : Nat) (a b c : E)
  | setIx (i : Nat) (ix e : E)
  | swap (i : Nat) (a : E) (j : Nat) (b e : E)
  | aug (i : Nat) (op : BOp) (e : E)
  | ex (e : E)
  | ret (e : E)
  | ifs (c : E) (a b : Ss)
  | whl (c : E) (b : Ss)
  | fo (tg : Tg) (it : It) (b : Ss)
  | brk
  | cont
  | pass
  | raise (c : String)
  | never
inductive Ss where
  | nil
  | cons (s : S) (ss : Ss)
  | scope (keep : List Nat) (mid : Ss) (x i : Nat) (kk : Bool) (rest : Ss)
end

/-! ### what it computes -/
def rd (r : Ro) : RV → Option D
  | .fz d => some d
  | .fr d => some d
  | .pk i => match r[i]? with
    | some (.fz d) => some d
    | some (.ow d) => some d
    | some (.lk d) => some d
    | _ => none
def rds (r : Ro) : List RV → Option (List D)
  | [] => some []
  | x :: xs => match rd r x, rds r xs with
    | some d, some ds => some (d :: ds)
    | _, _ => none
/-- a new list is let stand -/
def settle : RV → Option RV
  | .fr (.list xs) => some (.fz (.list xs))
  | .fr _ => none
  | x => some x
/-- a value that is put into another thing -/
def cap (r : Ro) : RV → Option (D × Ro)
  | .fz d => some (d, r)
  | .fr (.list xs) => some (.list xs, r)
  | .fr _ => none
  | .pk i => match r[i]? with
    | some (.fz d) => some (d, r)
    | some (.ow (.list xs)) => some (.list xs, r.set i (.fz (.list xs)))
    | _ => none
def mulOk (i j : Int) : Bool := decide (i.natAbs.log2 + j.natAbs.log2 ≤ 900000)
def powOk (i j : Int) : Bool := decide (0 ≤ j ∧ j ≤ 1000000 ∧ i.natAbs < 2 ^ 64)
def divOk (j : Int) : Bool := decide (0 < j ∧ j.natAbs.log2 < 9000)
def divNOk (j : Int) : Bool := decide (j ≠ 0 ∧ j.natAbs.log2 < 9000)
def lenOk (n : Nat) : Bool := decide (n ≤ 100000)
def binop : BOp → D → D → Option RV
  | .add, .int i, .int j => some (.fz (.int (i + j)))
  | .add, .str x, .str y => if lenOk (x.length + y.length) then some (.fz (.str (x ++ y))) else none
  | .add, .list xs, .list ys => if lenOk (xs.length + ys.length) then some (.fr (.list (xs ++ ys))) else none
  | .add, .tuple xs, .tuple ys => if lenOk (xs.length + ys.length) then some (.fz (.tuple (xs ++ ys))) else none
  | .sub, .int i, .int j => some (.fz (.int (i - j)))
  | .mul, .int i, .int j => if mulOk i j then some (.fz (.int (i * j))) else none
  | .mod, .int i, .int j => if decide (0 < j) then some (.fz (.int (i % j))) else if decide (j ≠ 0) then some (.fz (.int (i.fmod j))) else none
  | .fdiv, .int i, .int j => if divOk j then some (.fz (.int (i / j))) else if divNOk j then some (.fz (.int (i.fdiv j))) else none
  | .pow, .int i, .int j => if powOk i j then some (.fz (.int (i ^ j.toNat))) else none
  | .shl, .int i, .int j => if powOk i j then some (.fz (.int (i * 2 ^ j.toNat))) else none
  | .shr, .int i, .int j => if decide (0 ≤ j) then some (.fz (.int (i / 2 ^ j.toNat))) else none
  | .and, .int i, .int j => some (.fz (.int (Builtin.bitAnd i j)))
  | .xor, .int i, .int j => some (.fz (.int (Builtin.bitXor i j)))
  | _, _, _ => none
def flatD : D → Bool
  | .list _ => false
  | .tuple _ => false
  | .dict _ => false
  | _ => true
def intsD : List D → Option (List Int)
  | [] => some []
  | .int i :: r => (intsD r).map (i :: ·)
  | _ :: _ => none
def boolsD : List D → Option (List Bool)
  | [] => some []
  | .bool i :: r => (boolsD r).map (i :: ·)
  | _ :: _ => none
def lexLt : List Int → List Int → Bool := HT.lexLt
def shapedD (d : D) : Bool := SeqAt.shaped d
/-- x in ys, things of any shape -/
def inOk (x : D) (ys : List D) : Bool := x.canLay0 && PyData.canLayAll0 ys && decide (x.depth ≤ 50)
/-- what sorted takes -/
def tupNe : D → Bool
  | .tuple (_ :: _) => true
  | _ => false
def plainS : D → Bool
  | .none => false
  | .tuple _ => false
  | _ => true
def alikeP (xs : List D) : Bool := xs.all fun x => xs.all fun y => PySem.W.alike x y
def sortOk (xs : List D) : Bool := decide (xs.length ≤ 100000) && (alikeP xs && ((xs.all tupNe || xs.all plainS) && xs.all fun d => decide (d.depth ≤ 50)))
def sortD (xs : List D) : List D := xs.mergeSort (PySem.W.dataLe false id)
/-! a dict: its keys are ints, or (then the first entry is a mark) tuples of ints -/
def isT : List (D × D) → Bool
  | (.none, .none) :: _ => true
  | _ => false
def dBody : List (D × D) → List (D × D)
  | (.none, .none) :: r => r
  | ds => ds
def keyFit (ds : List (D × D)) : D → Bool
  | .int _ => !isT ds
  | .tuple xs => isT ds && (intsD xs).isSome
  | _ => false
def dFind (ds : List (D × D)) (k : D) : Option D := (ds.find? fun p => PyData.eqv p.1 k).map (·.2)
def dPut (ds : List (D × D)) (k v : D) : List (D × D) := if (dFind ds k).isSome then ds.map (fun p => if PyData.eqv p.1 k then (p.1, v) else p) else ds ++ [(k, v)]
def dKeys (ds : List (D × D)) : List D := (dBody ds).map (·.1)
def isNoneD : D → Bool
  | .none => true
  | _ => false
/-- two texts -/
def strEq : D → D → Option Bool
  | .str x, .str y => some (decide (x = y))
  | _, _ => none
def cmpop : COp → D → D → Option Bool
  | .eq, x, y => if shapedD x && shapedD y then some (PyData.eqv x y) else strEq x y
  | .ne, x, y => if shapedD x && shapedD y then some (!PyData.eqv x y) else (strEq x y).map (!·)
  | .lt, .int i, .int j => some (decide (i < j))
  | .le, .int i, .int j => some (decide (i ≤ j))
  | .gt, .int i, .int j => some (decide (j < i))
  | .ge, .int i, .int j => some (decide (j ≤ i))
  | .lt, .tuple xs, .tuple ys => match intsD xs, intsD ys with
    | some a, some b => some (HT.lexLt a b)
    | _, _ => none
  | .isIn, x, .list ys => if flatD x && ys.all flatD then some (ys.any fun y => PyData.eqv y x) else if inOk x ys then some (ys.any fun y => PyData.eqv y x) else none
  | .isIn, x, .tuple ys => if flatD x && ys.all flatD then some (ys.any fun y => PyData.eqv y x) else if inOk x ys then some (ys.any fun y => PyData.eqv y x) else none
  | .notIn, x, .list ys => if flatD x && ys.all flatD then some (!ys.any fun y => PyData.eqv y x) else if inOk x ys then some (!ys.any fun y => PyData.eqv y x) else none
  | .notIn, x, .tuple ys => if flatD x && ys.all flatD then some (!ys.any fun y => PyData.eqv y x) else if inOk x ys then some (!ys.any fun y => PyData.eqv y x) else none
  | .isIn, k, .dict ds => if keyFit ds k then some (dFind ds k).isSome else none
  | .notIn, k, .dict ds => if keyFit ds k then some (!(dFind ds k).isSome) else none
  | .isIn, .str x, .str y => match x.cps.toList with
    | [c] => some (decide (c ∈ y.cps.toList))
    | _ => none
  | .notIn, .str x, .str y => match x.cps.toList with
    | [c] => some (!decide (c ∈ y.cps.toList))
    | _ => none
  | .isN, x, .none => some (isNoneD x)
  | .notN, x, .none => some (!isNoneD x)
  | .isB, .bool a, .bool b => some (a == b)
  | _, _, _ => none
def idxop : D → D → Option D
  | .list xs, .int i => L2.atI xs i
  | .tuple xs, .int i => L2.atI xs i
  | .dict ds, k => if keyFit ds k then dFind ds k else none
  | .str x, .int i => if lenOk x.length then (L2.atI x.cps.toList i).map fun c => .str ⟨#[c]⟩ else none
  | _, _ => none
def kdIs : Kd → D → Bool
  | .int, .int _ => true
  | .int, .bool _ => true
  | .bool, .bool _ => true
  | .tuple, .tuple _ => true
  | .list, .list _ => true
  | .str, .str _ => true
  | _, _ => false
def isDict : D → Bool
  | .dict _ => true
  | _ => false
def seqD : D → Option (List D)
  | .list xs => some xs
  | .tuple xs => some xs
  | _ => none
def maxI : Int → List Int → Int
  | n, [] => n
  | n, m :: ms => maxI (if n < m then m else n) ms
def minI : Int → List Int → Int
  | n, [] => n
  | n, m :: ms => minI (if m < n then m else n) ms
/-- pairs with a whole number ahead -/
def pairsD : List D → Option (List (D × D))
  | [] => some []
  | .tuple [.int i, y] :: r => (pairsD r).map ((.int i, y) :: ·)
  | _ :: _ => none
def mergeD (ds more : List (D × D)) : List (D × D) := more.foldl (fun acc p => dPut acc p.1 p.2) ds
def biop : BI → List D → Option RV
  | .len, [.list xs] => some (.fz (.int xs.length))
  | .len, [.tuple xs] => some (.fz (.int xs.length))
  | .len, [.str x] => if lenOk x.length then some (.fz (.int x.length)) else none
  | .toStr, [.int i] => if decide (i.natAbs.log2 < 1900) then some (.fz (.str (Str.ofString (toString i)))) else none
  | .abs, [.int i] => some (.fz (.int (if i < 0 then -i else i)))
  | .min2, [.int i, .int j] => some (.fz (.int (if j < i then j else i)))
  | .max2, [.int i, .int j] => some (.fz (.int (if j > i then j else i)))
  | .toInt, [.int i] => some (.fz (.int i))
  | .toInt, [.bool b] => some (.fz (.int (if b then 1 else 0)))
  | .toList, [.list xs] => some (.fr (.list xs))
  | .toList, [.tuple xs] => some (.fr (.list xs))
  | .toTuple, [.list xs] => some (.fz (.tuple xs))
  | .toTuple, [.tuple xs] => some (.fz (.tuple xs))
  | .sum, [.list xs] => (intsD xs).map fun ns => .fz (.int ns.sum)
  | .maxL, [.list xs] => (intsD xs).bind fun ns => match ns with
    | [] => none
    | n :: ns => some (.fz (.int (maxI n ns)))
  | .minL, [.list xs] => (intsD xs).bind fun ns => match ns with
    | [] => none
    | n :: ns => some (.fz (.int (minI n ns)))
  | .all, [.list xs] => (boolsD xs).map fun bs => .fz (.bool (bs.all id))
  | .sorted, [.list xs] => if sortOk xs then some (.fr (.list (sortD xs))) else none
  | .sorted, [.tuple xs] => if sortOk xs then some (.fr (.list (sortD xs))) else none
  | .sorted, [.dict ds] => if sortOk (dKeys ds) then some (.fr (.list (sortD (dKeys ds)))) else none
  | .any, [.list xs] => (boolsD xs).map fun bs => .fz (.bool (bs.any id))
  | .anyI, [.list xs] => (intsD xs).map fun ns => .fz (.bool (ns.any fun i => i != 0))
  | .toDict, [.list xs] => if lenOk xs.length then (pairsD xs).map fun ds => .fr (.dict (mergeD [] ds)) else none
  | _, _ => none
def strsD : List D → Option (List Str)
  | [] => some []
  | .str i :: r => (strsD r).map (i :: ·)
  | _ :: _ => none
def smop : SM → Str → D → Option RV
  | .join, s, .list ys => (strsD ys).bind fun ss => if decide ((ss.map (·.length)).sum + ss.length * s.length ≤ 100000) then some (.fz (.str (PySem.Txt.join s ss))) else none
  | .join, s, .tuple ys => (strsD ys).bind fun ss => if decide ((ss.map (·.length)).sum + ss.length * s.length ≤ 100000) then some (.fz (.str (PySem.Txt.join s ss))) else none
  | .split, s, .str b => if !(b.length == 0) && decide (s.length ≤ 100000) then some (.fr (.list ((PySem.Txt.split s b).map PyData.str))) else none
  | .startswith, s, .str b => some (.fz (.bool (PySem.Txt.startswith s b)))
  | .count, s, .str b => some (.fz (.int (PySem.Txt.count s b)))
  | _, _, _ => none
/-- a part of an f-string -/
def txtOf : RV → Option Str
  | .fz (.int i) => if decide (i.natAbs.log2 < 1900) then some (Str.ofString (toString i)) else none
  | .fz (.str s) => if lenOk s.length then some s else none
  | _ => none
def sIx (n d : Nat) : Option Int → Nat := HT.sIx n d
def cutD {α : Type} (xs : List α) (lo hi : Option Int) : List α := (xs.drop (HT.sIx xs.length 0 lo)).take (HT.sIx xs.length xs.length hi - HT.sIx xs.length 0 lo)
def cutop : D → Option Int → Option Int → Option RV
  | .list xs, lo, hi => some (.fr (.list (cutD xs lo hi)))
  | .tuple xs, lo, hi => some (.fz (.tuple (cutD xs lo hi)))
  | _, _, _ => none
/-- the first place of x -/
def findD (x : D) : List D → Nat → Option Nat
  | [], _ => none
  | y :: r, k => if PyData.eqv y x then some k else findD x r (k + 1)
def metop : MT → D → List D → Option RV
  | .index, .list ys, [x] => if flatD x && ys.all flatD then (findD x ys 0).map fun k : Nat => .fz (.int (k : Int)) else none
  | .index, .tuple ys, [x] => if flatD x && ys.all flatD then (findD x ys 0).map fun k : Nat => .fz (.int (k : Int)) else none
  | .get, .dict ds, [k, y] => if keyFit ds k && flatD y then some (.fz ((dFind ds k).getD y)) else none
  | _, _, _ => none
def sameK : MT → D → D → Bool
  | .index, .list _, .list _ => true
  | .index, .tuple _, .tuple _ => true
  | .get, .dict _, .dict _ => true
  | _, _, _ => false
def muop : MU → D → List D → Option (D × D)
  | .append, .list xs, [x] => if lenOk xs.length then some (.none, .list (xs ++ [x])) else none
  | .pop, .list xs, [] => (xs[xs.length - 1]?).map fun y => (y, .list xs.dropLast)
  | .popAt, .list xs, [.int i] => if decide (0 ≤ i ∧ i < xs.length ∧ xs.length < 100000) then (xs[i.toNat]?).map fun y => (y, .list (xs.eraseIdx i.toNat)) else none
  | .clear, .list _, [] => some (.none, .list [])
  | .insert, .list xs, [.int i, y] => if decide (0 ≤ i ∧ i ≤ 100000 ∧ xs.length < 100000) then some (.none, .list (xs.take i.toNat ++ [y] ++ xs.drop i.toNat)) else none
  | .reverse, .list xs, [] => some (.none, .list xs.reverse)
  | .remove, .list xs, [.int k] => match intsD xs with
    | some ns => if decide (k ∈ ns ∧ ns.length < 100000) then some (.none, .list ((ns.eraseIdx (ns.findIdx fun z => z == k)).map PyData.int)) else none
    | none => none
  | _, _, _ => none
/-- a slot is stored -/
def setSl (pr : List Nat) (i : Nat) (s : Sl) (r : Ro) : Option Ro := if pr.contains i then none else match r[i]? with
  | none => none
  | some (.lk _) => none
  | some _ => some (r.set i s)
def bindT (pr : List Nat) : Tg → D → Ro → Option Ro
  | .nm i, d, r => setSl pr i (.fz d) r
  | .t2 a b, .tuple [x, y], r => (bindT pr a x r).bind fun r => bindT pr b y r
  | .t2 a b, .list [x, y], r => (bindT pr a x r).bind fun r => bindT pr b y r
  | .t3 a b c, .tuple [x, y, z], r => (bindT pr a x r).bind fun r => (bindT pr b y r).bind fun r => bindT pr c z r
  | .t4 a b c d, .tuple [x, y, z, u], r => (bindT pr a x r).bind fun r => (bindT pr b y r).bind fun r => (bindT pr c z r).bind fun r => bindT pr d u r
  | _, _, _ => none
def rngD (lo : Int) (n : Nat) : List D := (List.range n).map fun k : Nat => .int (lo + k)
def itemsRng : List D → Option (List D)
  | [.int j] => if decide (-100000 ≤ j ∧ j ≤ 100000) then some (rngD 0 j.toNat) else none
  | [.int i, .int j] => if decide (-100000 ≤ i ∧ i ≤ 100000 ∧ j ≤ 100000 ∧ -100000 ≤ j) then some (rngD i (j - i).toNat) else none
  | [.int i, .int j, .int c] => if decide (c = -1 ∧ -100000 ≤ i ∧ i ≤ 100000 ∧ j ≤ 100000 ∧ -100000 ≤ j) then some ((List.range (i - j).toNat).map fun k : Nat => .int (i - k)) else none
  | _ => none
def enumD : List D → Nat → List D
  | [], _ => []
  | x :: r, k => .tuple [.int k, x] :: enumD r (k + 1)
def zipD : List D → List D → List D
  | x :: r, y :: s => .tuple [x, y] :: zipD r s
  | _, _ => []
/-- own slots of a comprehension: they hold nothing own -/
def wipeOk (pr own : List Nat) (r : Ro) : Bool := own.all fun i => !pr.contains i && (match r[i]? with | some .un => true | some (.fz _) => true | _ => false)
def wipeR (own : List Nat) (r : Ro) : Ro := own.foldr (fun i r => r.set i .un) r
def backR (own : List Nat) (r0 r : Ro) : Ro := own.foldr (fun i r => r.set i (r0.getD i .un)) r
/-- what is walked, and the slot that is locked meanwhile -/
def lockOf (r : Ro) : RV → List Nat
  | .pk i => match r[i]? with
    | some (.ow _) => [i]
    | _ => []
  | _ => []
def lockR (l : List Nat) (r : Ro) : Ro := match l with
  | [] => r
  | i :: l => lockR l (match r[i]? with
    | some (.ow d) => r.set i (.lk d)
    | _ => r)
def unlockR (l : List Nat) (r : Ro) : Ro := match l with
  | [] => r
  | i :: l => match (unlockR l r)[i]? with
    | some (.lk d) => (unlockR l r).set i (.ow d)
    | _ => unlockR l r
def noLk (own : List Nat) (r : Ro) : Bool := own.all fun i => match r[i]? with | some (.lk _) => false | _ => true
/-- the turns of a comprehension -/
def compL (pr own : List Nat) (tg : Tg) (test : Ro → O Bool) (elt : Ro → O D) : List D → List D → Ro → O (List D)
  | [], acc, r => .ok acc r
  | d :: ds, acc, r => match bindT pr tg d r with
    | none => .no
    | some r1 => match test r1 with
      | .ok true r2 => (match elt r2 with
        | .ok y r3 => if lenOk acc.length && noLk own r3 then compL pr own tg test elt ds (acc ++ [y]) (wipeR own r3) else .no
        | _ => .no)
      | .ok false r2 => if noLk own r2 then compL pr own tg test elt ds acc (wipeR own r2) else .no
      | _ => .no
def argOf (r : Ro) : RV → Option Arg
  | .fz d => some (.fz d)
  | .fr d => some (.ow d)
  | .pk i => match r[i]? with
    | some (.fz d) => some (.fz d)
    | some (.ow d) => some (.ow d)
    | _ => none
def argsOf (r : Ro) : List RV → Option (List Arg)
  | [] => some []
  | x :: xs => match argOf r x, argsOf r xs with
    | some a, some as => some (a :: as)
    | _, _ => none
/-- the slots that a call may change -/
def pkOwn (r : Ro) : List RV → List Nat
  | [] => []
  | .pk i :: xs => match r[i]? with
    | some (.ow _) => i :: pkOwn r xs
    | _ => pkOwn r xs
  | _ :: xs => pkOwn r xs
def backArgs (r0 : Ro) : List RV → List Arg → Ro → Ro
  | .pk i :: xs, a :: as, r => match r0[i]? with
    | some (.ow _) => backArgs r0 xs as (r.set i a.sl)
    | _ => backArgs r0 xs as r
  | _ :: xs, _ :: as, r => backArgs r0 xs as r
  | _, _, r => r
def nodupB : List Nat → Bool
  | [] => true
  | i :: r => !r.contains i && nodupB r
/-- f(x, x) -/
def dupV : E → Es → Bool
  | .var i, .cons (.var j) .nil => decide (i = j)
  | _, _ => false
/-- .. a new list let stand -/
def stl (x : O RV) : O RV := x.bind fun x r => O.lift (settle x) r
/-- .. put into another thing -/
def cpo (x : O RV) : O D := x.bind fun x r => match cap r x with
  | some (d, r) => .ok d r
  | none => .no
def asBool (x : RV) (r : Ro) : O Bool := match x with
  | .fz (.bool b) => .ok b r
  | _ => .no
def asInt (x : RV) (r : Ro) : O Int := match x with
  | .fz (.int b) => .ok b r
  | _ => .no
/-- the items of a new list, or of an own one in another slot -/
def extItems (i : Nat) (x : RV) (r : Ro) : Option (List D) := match x with
  | .fr (.list ys) => some ys
  | .pk j => if i = j then none else (match r[j]? with
    | some (.ow (.list ys)) => some ys
    | _ => none)
  | _ => none
/-- the program's constants: name, mark among the slots' names, value -/
def cstTab : List (String × String × D) := [("MOST", "0MOST", .int 6), ("LEAST", "0LEAST", .int 2), ("RING", "0RING", .str (Str.ofString "o")), ("CROSS", "0CROSS", .str (Str.ofString "x")), ("NONE", "0NONE", .str (Str.ofString ".")),
  ("MOST_MOVES", "0MOST_MOVES", .int 30), ("MOST_COLUMNS", "0MOST_COLUMNS", .int 5), ("FIGURES", "0FIGURES", .str (Str.ofString "0123456789")), ("MOST_FIGURES", "0MOST_FIGURES", .int 6)]
/-- len(set(x)): how many numbers there are, each once -/
def lsetop : D → Option RV
  | .list xs => match intsD xs with
    | some ns => if ns.length ≤ 4000 then some (.fz (.int ((PyProof.Rows.firstMet (fun i => ns.getD i 0) ns.length).length : Nat))) else none
    | none => none
  | _ => none
mutual
def evE (cl : Cl) (pr : List Nat) : E → Ro → O RV
  | .var i, r => match r[i]? with
    | some (.fz d) => .ok (.fz d) r
    | some (.ow _) => .ok (.pk i) r
    | some (.lk _) => .ok (.pk i) r
    | _ => .no
  | .lit d, r => .ok (.fz d) r
  | .bin op a b, r => (stl (evE cl pr a r)).bind fun x r => (evE cl pr b r).bind fun y r => match rd r x, rd r y with
    | some dx, some dy => O.lift (binop op dx dy) r
    | _, _ => .no
  | .neg a, r => (evE cl pr a r).bind fun x r => match x with
    | .fz (.int i) => .ok (.fz (.int (-i))) r
    | _ => .no
  | .cmp op a b, r => (stl (evE cl pr a r)).bind fun x r => (evE cl pr b r).bind fun y r => match rd r x, rd r y with
    | some dx, some dy => (match cmpop op dx dy with
      | some b => .ok (.fz (.bool b)) r
      | none => .no)
    | _, _ => .no
  | .chain op op' a b c, r => (stl (evE cl pr a r)).bind fun x r => (stl (evE cl pr b r)).bind fun y r => match rd r x, rd r y with
    | some dx, some dy => (match cmpop op dx dy with
      | some false => .ok (.fz (.bool false)) r
      | some true => (evE cl pr c r).bind fun z r => (match rd r y, rd r z with
        | some dy, some dz => (match cmpop op' dy dz with
          | some b => .ok (.fz (.bool b)) r
          | none => .no)
        | _, _ => .no)
      | none => .no)
    | _, _ => .no
  | .and a b, r => (evE cl pr a r).bind fun x r => (asBool x r).bind fun k r => if k = true then (evE cl pr b r).bind fun y r => (asBool y r).bind fun k r => .ok (.fz (.bool k)) r else .ok (.fz (.bool false)) r
  | .or a b, r => (evE cl pr a r).bind fun x r => (asBool x r).bind fun k r => if k = true then .ok (.fz (.bool true)) r else (evE cl pr b r).bind fun y r => (asBool y r).bind fun k r => .ok (.fz (.bool k)) r
  | .not a, r => (evE cl pr a r).bind fun x r => (asBool x r).bind fun k r => .ok (.fz (.bool (!k))) r
  | .ife c a b, r => (evE cl pr c r).bind fun x r => (asBool x r).bind fun k r => if k = true then evE cl pr a r else evE cl pr b r
  | .tup es, r => (evCs cl pr es r).bind fun ds r => if lenOk ds.length then .ok (.fz (.tuple ds)) r else .no
  | .lst es, r => (evCs cl pr es r).bind fun ds r => if lenOk ds.length then .ok (.fr (.list ds)) r else .no
  | .idx a b, r => (stl (evE cl pr a r)).bind fun x r => (evE cl pr b r).bind fun y r => match rd r x, rd r y with
    | some dx, some dy => O.lift ((idxop dx dy).map .fz) r
    | _, _ => .no
  | .cut a lo hi, r => (stl (evE cl pr a r)).bind fun x r => (evE cl pr lo r).bind fun l r => (asInt l r).bind fun l r => (evE cl pr hi r).bind fun h r => (asInt h r).bind fun h r => match rd r x with
    | some dx => O.lift (cutop dx (some l) (some h)) r
    | none => .no
  | .cutL a lo, r => (stl (evE cl pr a r)).bind fun x r => (evE cl pr lo r).bind fun l r => (asInt l r).bind fun l r => match rd r x with
    | some dx => O.lift (cutop dx (some l) none) r
    | none => .no
  | .cutH a hi, r => (stl (evE cl pr a r)).bind fun x r => (evE cl pr hi r).bind fun h r => (asInt h r).bind fun h r => match rd r x with
    | some dx => O.lift (cutop dx none (some h)) r
    | none => .no
  | .cutA a, r => (stl (evE cl pr a r)).bind fun x r => match rd r x with
    | some dx => O.lift (cutop dx none none) r
    | none => .no
  | .rev a, r => (stl (evE cl pr a r)).bind fun x r => match rd r x with
    | some (.list xs) => .ok (.fr (.list xs.reverse)) r
    | some (.tuple xs) => .ok (.fz (.tuple xs.reverse)) r
    | _ => .no
  | .revC a, r => (stl (evE cl pr a r)).bind fun x r => match rd r x with
    | some (.list xs) => .ok (.fr (.list xs.reverse)) r
    | _ => .no
  | .bits a, r => (stl (evE cl pr a r)).bind fun x r => match rd r x with
    | some (.int i) => .ok (.fz (.int (Builtin.Int.intBits i : Nat))) r
    | _ => .no
  | .lset a, r => (stl (evE cl pr a r)).bind fun x r => match rd r x with
    | some d => O.lift (lsetop d) r
    | none => .no
  | .call f es, r => match cl f with
    | none => .no
    | some fn => (evAs cl pr es r).bind fun xs r => match argsOf r xs with
      | some as => if nodupB (pkOwn r xs) then (match fn as with
        | some (.val (.fz d), outs) => .ok (.fz d) (backArgs r xs outs r)
        | some (.val (.ow d), outs) => .ok (.fr d) (backArgs r xs outs r)
        | some (.ex c, outs) => .ex c (backArgs r xs outs r)
        | none => .no) else .no
      | none => .no
  | .bi b es, r => (evSs cl pr es r).bind fun xs r => match rds r xs with
    | some ds => O.lift (biop b ds) r
    | none => .no
  | .isi k a, r => (evE cl pr a r).bind fun x r => match rd r x with
    | some d => if isDict d then .no else .ok (.fz (.bool (kdIs k d))) r
    | none => .no
  | .inr neg x n, r => (evE cl pr x r).bind fun a r => (asInt a r).bind fun i r => (evE cl pr n r).bind fun b r => (asInt b r).bind fun j r => .ok (.fz (.bool (if neg then !decide (0 ≤ i ∧ i < j) else decide (0 ≤ i ∧ i < j)))) r
  | .dget k1 v1 k2 v2 x y, r => (evE cl pr k1 r).bind fun a r => (asInt a r).bind fun a r => (evE cl pr v1 r).bind fun b r => (asInt b r).bind fun b r => (evE cl pr k2 r).bind fun c r => (asInt c r).bind fun c r => (evE cl pr v2 r).bind fun d r => (asInt d r).bind fun d r => (evE cl pr x r).bind fun e r => (asInt e r).bind fun e r => (evE cl pr y r).bind fun f r => (asInt f r).bind fun f r => .ok (.fz (.int (if e = c then d else if e = a then b else f))) r
  | .sm m a e, r => (stl (evE cl pr a r)).bind fun x r => match rd r x with
    | some (.str s) => (stl (evE cl pr e r)).bind fun y r => (match rd r y with
      | some d => O.lift (smop m s d) r
      | none => .no)
    | _ => .no
  | .gc k, r => match cstTab[k]? with
    | some c => .ok (.fz c.2.2) r
    | none => .no
  | .fstr es, r => (evFs cl pr es Str.empty r).bind fun z r => .ok (.fz (.str z)) r
  | .met m a es, r => (stl (evE cl pr a r)).bind fun x r => match rd r x with
    | some d0 => if sameK m d0 d0 then (evSs cl pr es r).bind fun xs r => (match rd r x, rds r xs with
      | some d, some ds => if sameK m d0 d then O.lift (metop m d ds) r else .no
      | _, _ => .no) else .no
    | none => .no
  | .mu m i es, r => match r[i]? with
    | some (.ow (.list _)) => (evCs cl pr es r).bind fun ds r => (match r[i]? with
      | some (.ow d) => (match muop m d ds with
        | some (y, d') => .ok (.fz y) (r.set i (.ow d'))
        | none => .no)
      | _ => .no)
    | _ => .no
  | .ext i e, r => match r[i]? with
    | some (.ow (.list _)) => (evE cl pr e r).bind fun x r => (match r[i]?, extItems i x r with
      | some (.ow (.list xs)), some ys => if lenOk (xs.length + ys.length) then .ok (.fz .none) (r.set i (.ow (.list (xs ++ ys)))) else .no
      | _, _ => .no)
    | _ => .no
  | .comp own elt tg it cs, r => (evI cl pr it r).bind fun z r =>
    if wipeOk pr own (lockR z.2 r) then (match compL pr own tg (evTs cl pr cs) (fun r => cpo (evE cl pr elt r)) z.1 [] (wipeR own (lockR z.2 r)) with
      | .ok acc r1 => .ok (.fr (.list acc)) (unlockR z.2 (backR own (lockR z.2 r) r1))
      | _ => .no) else .no
  | .lrng es, r => (evSs cl pr es r).bind fun xs r => match rds r xs with
    | some ds => (match itemsRng ds with
      | some items => .ok (.fr (.list items)) r
      | none => .no)
    | none => .no
  | .dnew t, r => .ok (.fr (.dict (if t then [(.none, .none)] else []))) r
def evSs (cl : Cl) (pr : List Nat) : Es → Ro → O (List RV)
  | .nil, r => .ok [] r
  | .cons e es, r => (stl (evE cl pr e r)).bind fun x r => (evSs cl pr es r).bind fun xs r => .ok (x :: xs) r
def evCs (cl : Cl) (pr : List Nat) : Es → Ro → O (List D)
  | .nil, r => .ok [] r
  | .cons e es, r => (cpo (evE cl pr e r)).bind fun x r => (evCs cl pr es r).bind fun xs r => .ok (x :: xs) r
/-- an f-string's parts -/
def evFs (cl : Cl) (pr : List Nat) : Es → Str → Ro → O Str
  | .nil, acc, r => .ok acc r
  | .cons e es, acc, r => (evE cl pr e r).bind fun x r => match txtOf x with
    | some y => if lenOk (acc ++ y).length then evFs cl pr es (acc ++ y) r else .no
    | none => .no
/-- a call's arguments: the last one may be a new list, or one with literals behind it -/
def evAs (cl : Cl) (pr : List Nat) : Es → Ro → O (List RV)
  | .nil, r => .ok [] r
  | .cons e .nil, r => (evE cl pr e r).bind fun x r => .ok [x] r
  | .cons e (.cons (.lit (.int i)) .nil), r => (evE cl pr e r).bind fun x r => .ok [x, .fz (.int i)] r
  | .cons e es, r => if dupV e es then (cpo (evE cl pr e r)).bind fun d r => (evCs cl pr es r).bind fun ds r => .ok (.fz d :: ds.map .fz) r
    else (stl (evE cl pr e r)).bind fun x r => (evAs cl pr es r).bind fun xs r => .ok (x :: xs) r
/-- tests, one after another -/
def evTs (cl : Cl) (pr : List Nat) : Es → Ro → O Bool
  | .nil, r => .ok true r
  | .cons e .nil, r => (evE cl pr e r).bind fun x r => asBool x r
  | .cons _ _, _ => .no
def evI (cl : Cl) (pr : List Nat) : It → Ro → O (List D × List Nat)
  | .seq e, r => (stl (evE cl pr e r)).bind fun x r => match rd r x with
    | some (.dict ds) => .ok (dKeys ds, lockOf r x) r
    | some d => (match seqD d with
      | some xs => .ok (xs, lockOf r x) r
      | none => .no)
    | none => .no
  | .rng es, r => (evSs cl pr es r).bind fun xs r => match rds r xs with
    | some ds => (match itemsRng ds with
      | some items => .ok (items, []) r
      | none => .no)
    | none => .no
  | .enum e, r => (stl (evE cl pr e r)).bind fun x r => match rd r x with
    | some d => (match seqD d with
      | some xs => .ok (enumD xs 0, lockOf r x) r
      | none => .no)
    | none => .no
  | .zip a b, r => (stl (evE cl pr a r)).bind fun x r => (stl (evE cl pr b r)).bind fun y r => match rd r x, rd r y with
    | some (.list xs), some (.list ys) => if nodupB (lockOf r x ++ lockOf r y) then .ok (zipD xs ys, lockOf r x ++ lockOf r y) r else .no
    | some (.tuple xs), some (.tuple ys) => .ok (zipD xs ys, []) r
    | _, _ => .no
end
/-! ### statements -/
def retv (pr : List Nat) (x : RV) (r : Ro) : Option (Arg × Ro) := match x with
  | .fz d => some (.fz d, r)
  | .fr d => some (.ow d, r)
  | .pk i => match r[i]? with
    | some (.fz d) => some (.fz d, r)
    | some (.ow d) => if pr.contains i then (match d with
      | .list xs => some (.fz (.list xs), r.set i (.fz (.list xs)))
      | _ => none) else some (.ow d, r.set i .un)
    | _ => none
/-- x = y hands an own list on -/
def stash (pr : List Nat) (i : Nat) (x : RV) (r : Ro) : Option Ro := match x with
  | .fz d => setSl pr i (.fz d) r
  | .fr d => setSl pr i (.ow d) r
  | .pk j => match r[j]? with
    | some (.fz d) => setSl pr i (.fz d) r
    | some (.ow d) => if pr.contains j then (match d with
      | .list xs => setSl pr i (.fz (.list xs)) (r.set j (.fz (.list xs)))
      | _ => none) else setSl pr i (.ow d) (r.set j .un)
    | _ => none
def keyOk : D → Bool
  | .int _ => true
  | .str _ => true
  | _ => false
def setD (d ix y : D) : Option D := match d, ix with
  | .list xs, .int k => (L2.ixN xs.length k).map fun j => .list (xs.set j y)
  | .dict ds, k => if keyFit ds k && lenOk ds.length then some (.dict (dPut ds k y)) else none
  | _, _ => none
def augop : BOp → D → D → Option D
  | .add, .int i, .int j => some (.int (i + j))
  | .sub, .int i, .int j => some (.int (i - j))
  | _, _, _ => none
def forL (pr : List Nat) (tg : Tg) (body : Ro → O Fl) : List D → Ro → O Fl
  | [], r => .ok .nx r
  | d :: ds, r => match bindT pr tg d r with
    | none => .no
    | some r1 => match body r1 with
      | .ok .nx r2 => forL pr tg body ds r2
      | .ok .ct r2 => forL pr tg body ds r2
      | .ok .bk r2 => .ok .nx r2
      | .ok (.rt a) r2 => .ok (.rt a) r2
      | .ex c r2 => .ex c r2
      | .no => .no
def whileL (c : Ro → O Bool) (body : Ro → O Fl) : Nat → Ro → O Fl
  | 0, _ => .no
  | n + 1, r => match c r with
    | .no => .no
    | .ex c r1 => .ex c r1
    | .ok false r1 => .ok .nx r1
    | .ok true r1 => match body r1 with
      | .ok .nx r2 => whileL c body n r2
      | .ok .ct r2 => whileL c body n r2
      | .ok .bk r2 => .ok .nx r2
      | .ok (.rt a) r2 => .ok (.rt a) r2
      | .ex c r2 => .ex c r2
      | .no => .no
def unlockO (l : List Nat) (x : O Fl) : O Fl := match x with
  | .ok f r => .ok f (unlockR l r)
  | .ex c r => .ex c (unlockR l r)
  | .no => .no
/-! a block whose new lists are written into at its end -/
mutual
def noLst : D → Bool
  | .list _ => false
  | .dict _ => false
  | .tuple ds => noLsts ds
  | _ => true
def noLsts : List D → Bool
  | [] => true
  | d :: ds => noLst d && noLsts ds
end
def immB : D → Bool
  | .none => true
  | .bool _ => true
  | .int _ => true
  | .str _ => true
  | _ => false
def hideR (keep : List Nat) : Nat → Ro → Ro
  | _, [] => []
  | k, s :: r => (match s with
    | .fz d => if keep.contains k && noLst d then .fz d else .un
    | _ => .un) :: hideR keep (k + 1) r
def keepR (keep : List Nat) : Nat → Ro → Ro
  | _, [] => []
  | k, s :: r => (if keep.contains k then s else .un) :: keepR keep (k + 1) r
def lkIn (keep : List Nat) : Nat → Ro → Bool
  | _, [] => true
  | k, s :: r => (match s with
    | .lk _ => keep.contains k
    | _ => true) && lkIn keep (k + 1) r
def scopeOk (keep pr : List Nat) (r : Ro) (x i : Nat) : Bool := pr.all keep.contains && lkIn keep 0 r && !keep.contains x && !keep.contains i && decide (i ≠ x) && decide (i < r.length)
def innerOk (kk : Bool) : D → Bool
  | .list es => decide (es.length ≤ 1000) && (kk || !es.isEmpty)
  | _ => false
def killOk (kk : Bool) (x : Nat) (r : Ro) : Bool := match r[x]? with
  | some (.ow (.list ds)) => decide (ds.length ≤ 1000) && ds.all (innerOk kk)
  | _ => false
/-- xs[k] = y -/
def setAt (cl : Cl) (pr : List Nat) (i : Nat) (ix : E) (y : D) (r : Ro) : O Unit := match r[i]? with
  | some (.ow _) => (evE cl pr ix r).bind fun k r => (match r[i]?, k with
    | some (.ow d), .fz k => (match setD d k y with
      | some d => .ok () (r.set i (.ow d))
      | none => .no)
    | _, _ => .no)
  | _ => .no
mutual
def exS (cl : Cl) (pr : List Nat) (fu : Nat) : S → Ro → O Fl
  | .asg i e, r => (evE cl pr e r).bind fun x r => O.lift ((stash pr i x r).map fun r => (Fl.nx, r)) r |>.bind fun p _ => .ok p.1 p.2
  | .unp tg e, r => (cpo (evE cl pr e r)).bind fun d r => match bindT pr tg d r with
    | some r => .ok .nx r
    | none => .no
  | .par i j a b, r => (evCs cl pr (.cons a (.cons b .nil)) r).bind fun ds r => match ds with
    | [x, y] => (match (setSl pr i (.fz x) r).bind (setSl pr j (.fz y)) with
      | some r => .ok .nx r
      | none => .no)
    | _ => .no
  | .par3 i j l a b c, r => (evCs cl pr (.cons a (.cons b (.cons c .nil))) r).bind fun ds r => match ds with
    | [x, y, z] => (match ((setSl pr i (.fz x) r).bind (setSl pr j (.fz y))).bind (setSl pr l (.fz z)) with
      | some r => .ok .nx r
      | none => .no)
    | _ => .no
  | .setIx i ix e, r => (cpo (evE cl pr e r)).bind fun y r => (setAt cl pr i ix y r).bind fun _ r => .ok .nx r
  | .swap i a j b e, r => (cpo (evE cl pr e r)).bind fun d r => match d with
    | .tuple [x, y] => (setAt cl pr i a x r).bind fun _ r => (setAt cl pr j b y r).bind fun _ r => .ok .nx r
    | .list [x, y] => (setAt cl pr i a x r).bind fun _ r => (setAt cl pr j b y r).bind fun _ r => .ok .nx r
    | _ => .no
  | .aug i op e, r => match r[i]? with
    | some (.fz (.int m)) => (evE cl pr e r).bind fun y r => (match y with
      | .fz dy => (match augop op (.int m) dy with
        | some z => (match setSl pr i (.fz z) r with
          | some r => .ok .nx r
          | none => .no)
        | none => .no)
      | _ => .no)
    | _ => .no
  | .ex e, r => (evE cl pr e r).bind fun _ r => .ok .nx r
  | .ret e, r => (evE cl pr e r).bind fun x r => match retv pr x r with
    | some (a, r) => .ok (.rt a) r
    | none => .no
  | .ifs c a b, r => (evE cl pr c r).bind fun x r => (asBool x r).bind fun k r => if k = true then exSs cl pr fu a r else exSs cl pr fu b r
  | .whl c b, r => whileL (fun r => (evE cl pr c r).bind fun x r => asBool x r) (exSs cl pr fu b) fu r
  | .fo tg it b, r => (evI cl pr it r).bind fun z r => unlockO z.2 (forL pr tg (exSs cl pr fu b) z.1 (lockR z.2 r))
  | .brk, r => .ok .bk r
  | .cont, r => .ok .ct r
  | .pass, r => .ok .nx r
  | .raise c, r => .ex c r
  | .never, _ => .no
def exSs (cl : Cl) (pr : List Nat) (fu : Nat) : Ss → Ro → O Fl
  | .nil, r => .ok .nx r
  | .cons s ss, r => match exS cl pr fu s r with
    | .ok .nx r => exSs cl pr fu ss r
    | x => x
  | .scope keep mid x i kk rest, r => if scopeOk keep pr r x i = true then (match exSs cl keep fu mid (hideR keep 0 r) with
      | .ok .nx r1 => if (decide (r1.length = r.length) && killOk kk x r1) = true then exSs cl pr fu rest (keepR keep 0 r) else .no
      | .ok (.rt (.fz d)) r1 => if (decide (r1.length = r.length) && immB d) = true then .ok (.rt (.fz d)) (keepR keep 0 r) else .no
      | _ => .no) else .no
end
/-- the slots of own arguments -/
def protOf : List Arg → Nat → List Nat
  | [], _ => []
  | .ow _ :: r, k => k :: protOf r (k + 1)
  | _ :: r, k => protOf r (k + 1)
def outsOf : List Arg → Nat → Ro → Option (List Arg)
  | [], _, _ => some []
  | .fz d :: as, k, r => (outsOf as (k + 1) r).map (.fz d :: ·)
  | .ow _ :: as, k, r => match r[k]?, outsOf as (k + 1) r with
    | some (.ow d), some o => some (.ow d :: o)
    | some (.fz d), some o => some (.fz d :: o)
    | _, _ => none
def runF (cl : Cl) (fu : Nat) (n : Nat) (body : Ss) (as : List Arg) : Option (Out × List Arg) :=
  match exSs cl (protOf as 0) fu body (as.map Arg.sl ++ List.replicate (n - as.length) .un) with
  | .ok (.rt a) r => (outsOf as 0 r).map fun o => (.val a, o)
  | .ok .nx r => (outsOf as 0 r).map fun o => (.val (.fz .none), o)
  | .ex c r => (outsOf as 0 r).map fun o => (.ex c, o)
  | _ => none
end Rk

/-! Rk, part B: how the values stand in the heap. -/
namespace Rk
open PySem PySem.Spec PyProof.Rows L2
abbrev Frag := PySem.W.Frag
abbrev St := L2.St
def Ex (H H' : Hp) : Prop := ∀ a o, H a = some o → H' a = some o
theorem Ex.refl (H : Hp) : Ex H H := fun _ _ h => h
theorem Ex.trans {H H1 H2 : Hp} (a : Ex H H1) (b : Ex H1 H2) : Ex H H2 := fun x o h => b x o (a x o h)
theorem Ex.new {H : Hp} {p : Addr} {o : HO} (h : H p = none) : Ex H (upd H p o) := fun a u e => by
  rw [upd_ne (ne_of_none e h)]
  exact e
theorem ex_rd {H H' : Hp} {a : Addr} {u : HO} (e : Ex H H') (h : Rd H a u) : Rd H' a u := by
  rcases h with h | ⟨o, h⟩
  · exact Or.inl (e a _ h)
  · exact Or.inr ⟨o, e a _ h⟩
theorem ex_l {K : Frag} {H H' : Hp} {a : Addr} {xs : List V} (e : Ex H H') (h : SqL K H a xs) : SqL K H' a xs := by
  rcases h with h | h
  · exact Or.inl (ex_rd e h)
  · exact Or.inr h
theorem ex_t {K : Frag} {H H' : Hp} {a : Addr} {xs : List V} (e : Ex H H') (h : SqT K H a xs) : SqT K H' a xs := by
  rcases h with h | h
  · exact Or.inl (ex_rd e h)
  · exact Or.inr h
/-- a tuple that stands, without a dict of its own -/
def TqT (K : Frag) (H : Hp) (a : Addr) (xs : List V) : Prop := (∃ o : Obj, H a = some (.frz o (.tup xs)) ∧ o.dict = none) ∨
  ∃ (o : Obj) (its : Array Value) (n : Nat), K.lookup a = some o ∧ o.cls = .type "tuple" ∧ o.dict = none ∧ o.data = .seq its n ∧ its.size ≤ sizeLine ∧ Vals xs its.toList
theorem TqT.sq {K : Frag} {H : Hp} {a : Addr} {xs : List V} (h : TqT K H a xs) : SqT K H a xs := by
  rcases h with ⟨o, h, _⟩ | ⟨o, its, n, h1, h2, _, h3⟩
  · exact .inl (.inr ⟨o, h⟩)
  · exact .inr ⟨o, its, n, h1, h2, h3⟩
theorem ex_q {K : Frag} {H H' : Hp} {a : Addr} {xs : List V} (e : Ex H H') (h : TqT K H a xs) : TqT K H' a xs := by
  rcases h with ⟨o, h, hd⟩ | h
  · exact .inl ⟨o, e a _ h, hd⟩
  · exact .inr h
mutual
inductive Dp (K : Frag) (H : Hp) : V → D → Prop
  | non : Dp K H .non .none
  | bl (b : Bool) : Dp K H (.bl b) (.bool b)
  | int (i : Int) : Dp K H (.int i) (.int i)
  | str (x : Str) : Dp K H (.str x) (.str x)
  | lst {a : Addr} {xs : List V} {ds : List D} : SqL K H a xs → DpAll K H xs ds → Dp K H (.ref a) (.list ds)
  | tup {a : Addr} {xs : List V} {ds : List D} : TqT K H a xs → DpAll K H xs ds → Dp K H (.ref a) (.tuple ds)
inductive DpAll (K : Frag) (H : Hp) : List V → List D → Prop
  | nil : DpAll K H [] []
  | cons {v : V} {vs : List V} {d : D} {ds : List D} : Dp K H v d → DpAll K H vs ds → DpAll K H (v :: vs) (d :: ds)
end
mutual
theorem Dp.lib {K : Frag} {H : Hp} : ∀ (d : D) (v : V), Dp K H v d → L2.Dp K H v d
  | .none, _, h => by cases h; exact .non
  | .bool b, _, h => by cases h; exact .bl b
  | .int i, _, h => by cases h; exact .int i
  | .str x, _, h => by cases h; exact .str x
  | .list ds, _, h => by
    cases h with
    | lst hs ha => exact .lst hs (DpAll.lib ds _ ha)
  | .tuple ds, _, h => by
    cases h with
    | tup hs ha => exact .tup hs.sq (DpAll.lib ds _ ha)
  | .dict _, _, h => by cases h
theorem DpAll.lib {K : Frag} {H : Hp} : ∀ (ds : List D) (vs : List V), DpAll K H vs ds → L2.DpAll K H vs ds
  | [], _, h => by cases h; exact .nil
  | d :: ds, _, h => by
    cases h with
    | cons h1 h2 => exact .cons (Dp.lib d _ h1) (DpAll.lib ds _ h2)
end
mutual
theorem Dp.mono {K : Frag} {H H' : Hp} (e : Ex H H') : ∀ (d : D) (v : V), Dp K H v d → Dp K H' v d
  | .none, _, h => by cases h; exact .non
  | .bool b, _, h => by cases h; exact .bl b
  | .int i, _, h => by cases h; exact .int i
  | .str x, _, h => by cases h; exact .str x
  | .list ds, _, h => by
    cases h with
    | lst hs ha => exact .lst (ex_l e hs) (DpAll.mono e ds _ ha)
  | .tuple ds, _, h => by
    cases h with
    | tup hs ha => exact .tup (ex_q e hs) (DpAll.mono e ds _ ha)
  | .dict _, _, h => by cases h
theorem DpAll.mono {K : Frag} {H H' : Hp} (e : Ex H H') : ∀ (ds : List D) (vs : List V), DpAll K H vs ds → DpAll K H' vs ds
  | [], _, h => by cases h; exact .nil
  | d :: ds, _, h => by
    cases h with
    | cons h1 h2 => exact .cons (Dp.mono e d _ h1) (DpAll.mono e ds _ h2)
end
section
variable {K : Frag} {H : Hp}
theorem DpAll.length : ∀ {vs : List V} {ds : List D}, DpAll K H vs ds → vs.length = ds.length
  | _, _, .nil => rfl
  | _, _, .cons _ t => by rw [List.length_cons, List.length_cons, DpAll.length t]
theorem DpAll.append : ∀ {vs ws : List V} {ds es : List D}, DpAll K H vs ds → DpAll K H ws es → DpAll K H (vs ++ ws) (ds ++ es)
  | _, _, _, _, .nil, s => s
  | _, _, _, _, .cons r t, s => .cons r (DpAll.append t s)
theorem DpAll.get : ∀ {vs : List V} {ds : List D} {i : Nat} {d : D}, DpAll K H vs ds → ds[i]? = some d → ∃ v, vs[i]? = some v ∧ Dp K H v d
  | _, _, _, _, .nil, e => by simp at e
  | _, _, 0, _, .cons r _, e => by simp at e; subst e; exact ⟨_, rfl, r⟩
  | _, _, i + 1, d, .cons _ t, e => by
    obtain ⟨u, h1, h2⟩ := DpAll.get (i := i) (d := d) t (by simpa using e)
    exact ⟨u, by simpa using h1, h2⟩
theorem DpAll.getV : ∀ {vs : List V} {ds : List D} {i : Nat} {v : V}, DpAll K H vs ds → vs[i]? = some v → ∃ d, ds[i]? = some d ∧ Dp K H v d
  | _, _, _, _, .nil, e => by simp at e
  | _, _, 0, _, .cons r _, e => by simp at e; subst e; exact ⟨_, rfl, r⟩
  | _, _, i + 1, v, .cons _ t, e => by
    obtain ⟨u, h1, h2⟩ := DpAll.getV (i := i) (v := v) t (by simpa using e)
    exact ⟨u, by simpa using h1, h2⟩
theorem DpAll.set {v : V} {d : D} (h : Dp K H v d) : ∀ {vs : List V} {ds : List D} (i : Nat), DpAll K H vs ds → DpAll K H (vs.set i v) (ds.set i d)
  | _, _, _, .nil => .nil
  | _, _, 0, .cons _ t => .cons h t
  | _, _, i + 1, .cons q t => .cons q (DpAll.set h i t)
theorem DpAll.drop : ∀ {vs : List V} {ds : List D} (n : Nat), DpAll K H vs ds → DpAll K H (vs.drop n) (ds.drop n)
  | _, _, 0, r => r
  | _, _, _ + 1, .nil => .nil
  | _, _, n + 1, .cons _ t => DpAll.drop n t
theorem DpAll.take : ∀ {vs : List V} {ds : List D} (n : Nat), DpAll K H vs ds → DpAll K H (vs.take n) (ds.take n)
  | _, _, 0, _ => .nil
  | _, _, _ + 1, .nil => .nil
  | _, _, n + 1, .cons r t => .cons r (DpAll.take n t)
theorem DpAll.dropLast : ∀ {vs : List V} {ds : List D}, DpAll K H vs ds → DpAll K H vs.dropLast ds.dropLast
  | _, _, .nil => .nil
  | _, _, .cons _ .nil => .nil
  | _, _, .cons q (.cons r t) => .cons q (DpAll.dropLast (.cons r t))
theorem DpAll.erase : ∀ {vs : List V} {ds : List D} (i : Nat), DpAll K H vs ds → DpAll K H (vs.eraseIdx i) (ds.eraseIdx i)
  | _, _, _, .nil => .nil
  | _, _, 0, .cons _ t => t
  | _, _, i + 1, .cons q t => .cons q (DpAll.erase i t)
theorem DpAll.reverse : ∀ {vs : List V} {ds : List D}, DpAll K H vs ds → DpAll K H vs.reverse ds.reverse
  | _, _, .nil => .nil
  | _, _, .cons q t => by
    rw [List.reverse_cons, List.reverse_cons]
    exact DpAll.append (DpAll.reverse t) (.cons q .nil)
theorem DpAll.ints : ∀ {ds : List D} {vs : List V} {ns : List Int}, DpAll K H vs ds → intsD ds = some ns → vs = ns.map V.int ∧ ds = ns.map PyData.int
  | [], _, _, h, e => by
    cases h
    cases e
    exact ⟨rfl, rfl⟩
  | .int i :: r, _, _, h, e => by
    cases h with
    | cons h1 h2 =>
      cases h1
      unfold intsD at e
      obtain ⟨ns, e1, rfl⟩ := Option.map_eq_some_iff.mp e
      obtain ⟨q1, q2⟩ := DpAll.ints h2 e1
      rw [q1, q2]
      exact ⟨rfl, rfl⟩
  | .none :: _, _, _, _, e => by cases e
  | .bool _ :: _, _, _, _, e => by cases e
  | .str _ :: _, _, _, _, e => by cases e
  | .list _ :: _, _, _, _, e => by cases e
  | .tuple _ :: _, _, _, _, e => by cases e
  | .dict _ :: _, _, _, _, e => by cases e
theorem DpAll.bools : ∀ {ds : List D} {vs : List V} {ns : List Bool}, DpAll K H vs ds → boolsD ds = some ns → vs = ns.map V.bl ∧ ds = ns.map PyData.bool
  | [], _, _, h, e => by
    cases h
    cases e
    exact ⟨rfl, rfl⟩
  | .bool i :: r, _, _, h, e => by
    cases h with
    | cons h1 h2 =>
      cases h1
      unfold boolsD at e
      obtain ⟨ns, e1, rfl⟩ := Option.map_eq_some_iff.mp e
      obtain ⟨q1, q2⟩ := DpAll.bools h2 e1
      rw [q1, q2]
      exact ⟨rfl, rfl⟩
  | .none :: _, _, _, _, e => by cases e
  | .int _ :: _, _, _, _, e => by cases e
  | .str _ :: _, _, _, _, e => by cases e
  | .list _ :: _, _, _, _, e => by cases e
  | .tuple _ :: _, _, _, _, e => by cases e
  | .dict _ :: _, _, _, _, e => by cases e
theorem DpAll.ofInts : ∀ (ns : List Int), DpAll K H (ns.map V.int) (ns.map PyData.int)
  | [] => .nil
  | i :: r => .cons (.int i) (DpAll.ofInts r)
end
def keyD : Key → D
  | .inl i => .int i
  | .inr x => .str x
/-- a dict's object, known -/
def dO (a : Addr) (ob : Obj) : HO := .ext fun h => h.get? a = some ob
def KRep (K : Frag) (F : Hp) (es : Array DictEntry) (ds : List (D × D)) : Prop := ∃ (P : Program) (w : World) (vs : List (Int × Value)), PySem.KeysOf (intKind P w) es ∧ PySem.Pairs (intKind P w) es.toList vs ∧ (vs.map (·.1)).Nodup ∧
  Paired (fun (q : Int × Value) (d : D × D) => d.1 = .int q.1 ∧ ∃ v, RelV v q.2 ∧ Dp K F v d.2) vs ds
def TRep (K : Frag) (F : Hp) (es : Array DictEntry) (ds : List (D × D)) : Prop := ∃ (ds' : List (D × D)), ds = (.none, .none) :: ds' ∧ ∃ (P : Program) (w : World) (xs : List (List Int × Addr × Value)), es.toList = xs.map (entryOfKey (tupleKind (intKind P w))) ∧ (xs.map (·.1)).Nodup ∧
  Paired (fun (q : List Int × Addr × Value) (d : D × D) => d.1 = .tuple (q.1.map .int) ∧ TqT K F q.2.1 (q.1.map V.int) ∧ ∃ v, RelV v q.2.2 ∧ Dp K F v d.2) xs ds'
def DRep (K : Frag) (F : Hp) (a : Addr) (ob : Obj) (ds : List (D × D)) : Prop := (a == sysModules) = false ∧ ob.ExactDict ∧ ds.length ≤ 100002 ∧ ∃ (es : Array DictEntry) (ep : Nat), ob.data = .dict es ep ∧ (KRep K F es ds ∨ TRep K F es ds)
theorem DRep.mono {K : Frag} {F F' : Hp} (e : Ex F F') {a : Addr} {ob : Obj} {ds : List (D × D)} (h : DRep K F a ob ds) : DRep K F' a ob ds := by
  obtain ⟨h1, h2, h3, es, ep, h4, h5⟩ := h
  refine ⟨h1, h2, h3, es, ep, h4, ?_⟩
  rcases h5 with ⟨P, w, vs, q1, q2, q3, q4⟩ | ⟨ds', q0, P, w, xs, q1, q2, q3⟩
  · exact .inl ⟨P, w, vs, q1, q2, q3, Paired.mapP q4 fun p q z => ⟨z.1, let ⟨v, z1, z2⟩ := z.2; ⟨v, z1, Dp.mono e _ _ z2⟩⟩⟩
  · exact .inr ⟨ds', q0, P, w, xs, q1, q2, Paired.mapP q3 fun p q z => ⟨z.1, ex_q e z.2.1, let ⟨v, z1, z2⟩ := z.2.2; ⟨v, z1, Dp.mono e _ _ z2⟩⟩⟩
/-- what an own thing holds -/
inductive CRep (K : Frag) (F : Hp) : HO → D → Prop
  | lst {vs : List V} {ds : List D} : DpAll K F vs ds → CRep K F (.lst vs) (.list ds)
  | dc {a : Addr} {ob : Obj} {ds : List (D × D)} : DRep K F a ob ds → CRep K F (dO a ob) (.dict ds)
theorem CRep.mono {K : Frag} {F F' : Hp} (e : Ex F F') {o : HO} {d : D} (h : CRep K F o d) : CRep K F' o d := by
  cases h with
  | lst h => exact .lst (DpAll.mono e _ _ h)
  | dc h => exact .dc (h.mono e)
theorem CRep.list {K : Frag} {F : Hp} {o : HO} {ds : List D} (h : CRep K F o (.list ds)) : ∃ vs, o = .lst vs ∧ DpAll K F vs ds := by
  cases h with
  | lst h => exact ⟨_, rfl, h⟩

/-- no list that is known to the object -/
def nfl (o : HO) : Prop := ∀ (ob : Obj) (xs : List V), o ≠ .frz ob (.lst xs)
theorem nfl_lst (vs : List V) : nfl (.lst vs) := fun _ _ h => by cases h
theorem nfl_tup (o : Obj) (vs : List V) : nfl (.frz o (.tup vs)) := fun _ _ h => by cases h
structure Fm where
  H0 : Hp
  F0 : Hp
  Z : Addr → Prop
  zn : ∀ a, H0 a = none → Z a
  P : List (Nat × Addr)
  L : List (Nat × Option V)
structure Pin where
  s : Option Nat
  a : Addr
  o : HO
structure R (K : Frag) (fm : Fm) (pr : List Nat) (π : List Pin) (F : Hp) (σ : St) (r : Ro) (H : Hp) : Prop where
  len : σ.length = r.length
  sub : Ex F H
  fr : ∀ a o, ¬ fm.Z a → fm.H0 a = some o → H a = some o
  old : Ex fm.F0 F
  nw : ∀ a o, F a = some o → (∃ o', fm.F0 a = some o') ∨ (fm.Z a ∧ nfl o)
  fz : ∀ (i : Nat) (d : D), r[i]? = some (.fz d) → ∃ v, σ[i]? = some (some v) ∧ Dp K F v d
  ow : ∀ (i : Nat) (d : D), r[i]? = some (.ow d) → ∃ (a : Addr) (o : HO), σ[i]? = some (some (.ref a)) ∧ H a = some o ∧ CRep K F o d ∧ F a = none ∧ fm.Z a ∧ ∀ p ∈ π, p.a ≠ a
  dist : ∀ (i j : Nat) (d e : D) (a : Addr), r[i]? = some (.ow d) → r[j]? = some (.ow e) → σ[i]? = some (some (.ref a)) → σ[j]? = some (some (.ref a)) → i = j
  pin : ∀ p ∈ π, H p.a = some p.o ∧ F p.a = none ∧ fm.Z p.a
  pnd : (π.map Pin.a).Nodup
  lock : ∀ p ∈ π, ∀ i : Nat, p.s = some i → σ[i]? = some (some (.ref p.a)) ∧ ∃ d, r[i]? = some (.lk d) ∧ CRep K F p.o d
  lks : ∀ (i : Nat) (d : D), r[i]? = some (.lk d) → ∃ p ∈ π, p.s = some i
  par : ∀ q ∈ fm.P, q.1 ∈ pr ∧ σ[q.1]? = some (some (.ref q.2)) ∧ fm.Z q.2
  par2 : ∀ q ∈ fm.P, ∀ d : D, r[q.1]? = some (.fz d) → ∃ o, F q.2 = some o ∧ CRep K F o d
  par3 : ∀ q ∈ fm.P, ∀ (i : Nat) (d : D), r[i]? = some (.ow d) → σ[i]? = some (some (.ref q.2)) → i = q.1
  par4 : ∀ q ∈ fm.P, ∃ o, H q.2 = some o
  lkP : ∀ p ∈ π, ∀ i : Nat, p.s = some i → ∀ q ∈ fm.P, q.2 = p.a → i = q.1
  kp : ∀ q ∈ fm.L, q.1 ∈ pr ∧ σ[q.1]? = some q.2
section
variable {K : Frag} {fm : Fm} {pr : List Nat} {π : List Pin} {F : Hp} {σ : St} {r : Ro} {H : Hp}
theorem R.znew (h : R K fm pr π F σ r H) {p : Addr} (hp : H p = none) : fm.Z p := by
  by_cases z : fm.Z p
  · exact z
  · cases e : fm.H0 p with
    | none => exact fm.zn p e
    | some o =>
      have := h.fr p o z e
      rw [hp] at this
      cases this
theorem fnew {F H : Hp} (e : Ex F H) {p : Addr} (hp : H p = none) : F p = none := by
  cases q : F p with
  | none => rfl
  | some o =>
    rw [e p o q] at hp
    cases hp
/-- the heap has grown by a thing that nobody asks for -/
theorem R.grow (h : R K fm pr π F σ r H) {p : Addr} {o : HO} (hp : H p = none) : R K fm pr π F σ r (upd H p o) where
  len := h.len
  sub := h.sub.trans (Ex.new hp)
  fr := fun a u z e => Ex.new hp a u (h.fr a u z e)
  old := h.old
  nw := h.nw
  fz := h.fz
  ow := fun i d e => by
    obtain ⟨a, u, h1, h2, h3⟩ := h.ow i d e
    exact ⟨a, u, h1, Ex.new hp a u h2, h3⟩
  dist := h.dist
  pin := fun p' hp' => by
    obtain ⟨h1, h2⟩ := h.pin p' hp'
    exact ⟨Ex.new hp _ _ h1, h2⟩
  pnd := h.pnd
  lock := h.lock
  lks := h.lks
  par := h.par
  par2 := h.par2
  par3 := h.par3
  lkP := h.lkP
  kp := h.kp
  par4 := fun q hq => by
    obtain ⟨u, e⟩ := h.par4 q hq
    exact ⟨u, Ex.new hp _ _ e⟩
/-- a new thing that never changes any more -/
theorem R.newF (h : R K fm pr π F σ r H) {p : Addr} {o : HO} (hp : H p = none) (hn : nfl o) : R K fm pr π (upd F p o) σ r (upd H p o) := by
  have hF : F p = none := fnew h.sub hp
  have g := h.grow (o := o) hp
  have e : Ex F (upd F p o) := Ex.new hF
  refine ⟨h.len, fun a u q => ?_, g.fr, h.old.trans e, fun a u q => ?_, fun i d q => ?_, fun i d q => ?_, h.dist, fun p' hp' => ?_, h.pnd, fun p' hp' i q => ?_, h.lks, h.par, fun q hq d z => ?_, h.par3, g.par4, h.lkP, h.kp⟩
  · by_cases ha : a = p
    · subst ha
      rw [upd_same] at q ⊢
      exact q
    · rw [upd_ne ha] at q ⊢
      exact h.sub a u q
  · by_cases ha : a = p
    · subst ha
      rw [upd_same] at q
      cases q
      exact .inr ⟨h.znew hp, hn⟩
    · rw [upd_ne ha] at q
      exact h.nw a u q
  · obtain ⟨v, h1, h2⟩ := h.fz i d q
    exact ⟨v, h1, Dp.mono e _ _ h2⟩
  · obtain ⟨a, u, h1, h2, h3, h4, h5⟩ := g.ow i d q
    refine ⟨a, u, h1, h2, h3.mono e, ?_, h5⟩
    have : a ≠ p := fun z => by
      obtain ⟨a', u', h1', h2', _⟩ := h.ow i d q
      rw [h1] at h1'
      cases h1'
      rw [z, hp] at h2'
      cases h2'
    rw [upd_ne this]
    exact h4
  · obtain ⟨h1, h2, h3⟩ := g.pin p' hp'
    refine ⟨h1, ?_, h3⟩
    have : p'.a ≠ p := fun z => by
      have := (h.pin p' hp').1
      rw [z, hp] at this
      cases this
    rw [upd_ne this]
    exact h2
  · obtain ⟨h1, d, h2, h3⟩ := h.lock p' hp' i q
    exact ⟨h1, d, h2, h3.mono e⟩
  · obtain ⟨o', h1, h2⟩ := h.par2 q hq d z
    exact ⟨o', e _ _ h1, h2.mono e⟩
/-- a new own thing, held aside -/
theorem R.newP (h : R K fm pr π F σ r H) {p : Addr} {o : HO} (hp : H p = none) : R K fm pr (⟨none, p, o⟩ :: π) F σ r (upd H p o) := by
  have hF : F p = none := fnew h.sub hp
  have g := h.grow (o := o) hp
  refine ⟨h.len, g.sub, g.fr, h.old, h.nw, h.fz, fun i d q => ?_, h.dist, fun p' hp' => ?_, ?_, fun p' hp' i q => ?_, fun i d q => ?_, h.par, h.par2, h.par3, g.par4, fun p' hp' i e => (List.mem_cons.mp hp').elim (fun z => by subst z; cases e) fun z => h.lkP p' z i e, h.kp⟩
  · obtain ⟨a, u, h1, h2, h3, h4, h5, h6⟩ := g.ow i d q
    refine ⟨a, u, h1, h2, h3, h4, h5, fun p' hp' => ?_⟩
    rcases List.mem_cons.mp hp' with rfl | hp'
    · intro z
      obtain ⟨a', u', h1', h2', _⟩ := h.ow i d q
      rw [h1] at h1'
      cases h1'
      rw [← z, hp] at h2'
      cases h2'
    · exact h6 p' hp'
  · rcases List.mem_cons.mp hp' with rfl | hp'
    · exact ⟨upd_same, hF, h.znew hp⟩
    · exact g.pin p' hp'
  · rw [List.map_cons, List.nodup_cons]
    refine ⟨fun hm => ?_, h.pnd⟩
    obtain ⟨p', hp', e⟩ := List.mem_map.mp hm
    have := (h.pin p' hp').1
    rw [e, hp] at this
    cases this
  · rcases List.mem_cons.mp hp' with rfl | hp'
    · cases q
    · exact h.lock p' hp' i q
  · obtain ⟨p', hp', e⟩ := h.lks i d q
    exact ⟨p', List.mem_cons_of_mem _ hp', e⟩
/-- what was held aside is forgotten -/
theorem R.drop {q : Pin} (h : R K fm pr (q :: π) F σ r H) (hs : q.s = none) : R K fm pr π F σ r H := by
  refine ⟨h.len, h.sub, h.fr, h.old, h.nw, h.fz, fun i d e => ?_, h.dist, fun p' hp' => h.pin p' (List.mem_cons_of_mem _ hp'), (List.nodup_cons.mp h.pnd).2, fun p' hp' => h.lock p' (List.mem_cons_of_mem _ hp'), fun i d e => ?_, h.par, h.par2, h.par3, h.par4, fun p' hp' => h.lkP p' (List.mem_cons_of_mem _ hp'), h.kp⟩
  · obtain ⟨a, u, h1, h2, h3, h4, h5, h6⟩ := h.ow i d e
    exact ⟨a, u, h1, h2, h3, h4, h5, fun p' hp' => h6 p' (List.mem_cons_of_mem _ hp')⟩
  · obtain ⟨p', hp', e⟩ := h.lks i d e
    rcases List.mem_cons.mp hp' with rfl | hp'
    · rw [hs] at e
      cases e
    · exact ⟨p', hp', e⟩
/-- what was held aside is let stand -/
theorem R.freeze {p : Addr} {o : HO} (h : R K fm pr (⟨none, p, o⟩ :: π) F σ r H) (hn : nfl o) : R K fm pr π (upd F p o) σ r H := by
  obtain ⟨hH, hF, hZ⟩ := h.pin ⟨none, p, o⟩ List.mem_cons_self
  have hH : H p = some o := hH
  have hF : F p = none := hF
  have e : Ex F (upd F p o) := Ex.new hF
  have g := h.drop rfl
  refine ⟨g.len, fun a u q => ?_, g.fr, g.old.trans e, fun a u q => ?_, fun i d q => ?_, fun i d q => ?_, g.dist, fun p' hp' => ?_, g.pnd, fun p' hp' i q => ?_, g.lks, g.par, fun q hq d z => ?_, g.par3, g.par4, g.lkP, h.kp⟩
  · by_cases ha : a = p
    · subst ha
      rw [upd_same] at q
      rw [← q]
      exact hH
    · rw [upd_ne ha] at q
      exact h.sub a u q
  · by_cases ha : a = p
    · subst ha
      rw [upd_same] at q
      cases q
      exact .inr ⟨hZ, hn⟩
    · rw [upd_ne ha] at q
      exact h.nw a u q
  · obtain ⟨v, h1, h2⟩ := g.fz i d q
    exact ⟨v, h1, Dp.mono e _ _ h2⟩
  · obtain ⟨a, u, h1, h2, h3, h4, h5, h6⟩ := h.ow i d q
    refine ⟨a, u, h1, h2, h3.mono e, ?_, h5, fun p' hp' => h6 p' (List.mem_cons_of_mem _ hp')⟩
    have : a ≠ p := fun z => h6 ⟨none, p, o⟩ List.mem_cons_self z.symm
    rw [upd_ne this]
    exact h4
  · obtain ⟨h1, h2, h3⟩ := g.pin p' hp'
    refine ⟨h1, ?_, h3⟩
    have : p'.a ≠ p := fun z => (List.nodup_cons.mp h.pnd).1 (List.mem_map.mpr ⟨p', hp', z⟩)
    rw [upd_ne this]
    exact h2
  · obtain ⟨h1, d, h2, h3⟩ := g.lock p' hp' i q
    exact ⟨h1, d, h2, h3.mono e⟩
  · obtain ⟨o', h1, h2⟩ := g.par2 q hq d z
    exact ⟨o', e _ _ h1, h2.mono e⟩
theorem R.exF {p : Addr} {o : HO} (h : R K fm pr (⟨none, p, o⟩ :: π) F σ r H) : Ex F (upd F p o) := Ex.new (h.pin ⟨none, p, o⟩ List.mem_cons_self).2.1

theorem getr {α : Type} {l : List α} {i : Nat} {x : α} (h : i < l.length) : (l.set i x)[i]? = some x := by
  rw [List.getElem?_set_self h]
/-- a slot is stored: what is asked of it -/
theorem setSl_some {i : Nat} {s : Sl} {r' : Ro} (e : setSl pr i s r = some r') : i ∉ pr ∧ i < r.length ∧ (∀ d : D, r[i]? ≠ some (Sl.lk d)) ∧ r' = r.set i s := by
  unfold setSl at e
  split at e
  · cases e
  · rename_i hn
    split at e
    · cases e
    · cases e
    · rename_i x hx hy
      have hy' : r[i]? = some x := hy
      refine ⟨fun z => hn (by simpa using z), (List.getElem?_eq_some_iff.mp hy').1, fun d z => ?_, (Option.some.inj e).symm⟩
      rw [hy'] at z
      exact hx d (Option.some.inj z)
/-- a value in a slot -/
theorem R.setFz (h : R K fm pr π F σ r H) {i : Nat} {v : V} {d : D} {r' : Ro} (hv : Dp K F v d) (e : setSl pr i (.fz d) r = some r') : R K fm pr π F (σ.set i (some v)) r' H := by
  obtain ⟨hp, hi, hl, rfl⟩ := setSl_some e
  have hiσ : i < σ.length := by rw [h.len]; exact hi
  refine ⟨by rw [List.length_set, List.length_set]; exact h.len, h.sub, h.fr, h.old, h.nw, fun j u q => ?_, fun j u q => ?_, fun j k u w a q1 q2 q3 q4 => ?_, h.pin, h.pnd, fun p' hp' j q => ?_, fun j u q => ?_, fun q hq => ?_, fun q hq d' z => ?_, fun q hq j u z1 z2 => ?_, h.par4, h.lkP, fun q hq => ⟨(h.kp q hq).1, by rw [List.getElem?_set_ne (fun z => hp (by rw [z]; exact (h.kp q hq).1))]; exact (h.kp q hq).2⟩⟩
  · by_cases hj : i = j
    · subst hj
      rw [getr hi] at q
      cases q
      exact ⟨v, getr hiσ, hv⟩
    · rw [List.getElem?_set_ne hj] at q ⊢
      exact h.fz j u q
  · by_cases hj : i = j
    · subst hj
      rw [getr hi] at q
      cases q
    · rw [List.getElem?_set_ne hj] at q ⊢
      exact h.ow j u q
  · have n1 : i ≠ j := fun z => by subst z; rw [getr hi] at q1; cases q1
    have n2 : i ≠ k := fun z => by subst z; rw [getr hi] at q2; cases q2
    rw [List.getElem?_set_ne n1] at q1 q3
    rw [List.getElem?_set_ne n2] at q2 q4
    exact h.dist j k u w a q1 q2 q3 q4
  · obtain ⟨h1, d', h2, h3⟩ := h.lock p' hp' j q
    have n1 : i ≠ j := fun z => by subst z; exact hl d' h2
    rw [List.getElem?_set_ne n1, List.getElem?_set_ne n1]
    exact ⟨h1, d', h2, h3⟩
  · by_cases hj : i = j
    · subst hj
      rw [getr hi] at q
      cases q
    · rw [List.getElem?_set_ne hj] at q
      exact h.lks j u q
  · obtain ⟨h1, h2, h3⟩ := h.par q hq
    refine ⟨h1, ?_, h3⟩
    rw [List.getElem?_set_ne (fun z => hp (by rw [z]; exact h1))]
    exact h2
  · rw [List.getElem?_set_ne (fun z => hp (by rw [z]; exact (h.par q hq).1))] at z
    exact h.par2 q hq d' z
  · have n1 : i ≠ j := fun y => by subst y; rw [getr hi] at z1; cases z1
    rw [List.getElem?_set_ne n1] at z1 z2
    exact h.par3 q hq j u z1 z2
/-- an own thing in a slot -/
theorem R.setOw {p : Addr} {o : HO} (h : R K fm pr (⟨none, p, o⟩ :: π) F σ r H) {i : Nat} {d : D} {r' : Ro} (hc : CRep K F o d) (hpar : ∀ q ∈ fm.P, q.2 ≠ p) (e : setSl pr i (.ow d) r = some r') : R K fm pr π F (σ.set i (some (.ref p))) r' H := by
  obtain ⟨hp, hi, hl, rfl⟩ := setSl_some e
  obtain ⟨hH, hF, hZ⟩ := h.pin ⟨none, p, o⟩ List.mem_cons_self
  have hiσ : i < σ.length := by rw [h.len]; exact hi
  have g := h.drop rfl
  have np : ∀ (j : Nat) (u : D) (a : Addr), r[j]? = some (.ow u) → σ[j]? = some (some (.ref a)) → a ≠ p := fun j u a q1 q2 z => by
    obtain ⟨a', u', h1, _, _, _, _, h6⟩ := h.ow j u q1
    rw [q2] at h1
    cases h1
    exact h6 ⟨none, p, o⟩ List.mem_cons_self z.symm
  refine ⟨by rw [List.length_set, List.length_set]; exact h.len, h.sub, h.fr, h.old, h.nw, fun j u q => ?_, fun j u q => ?_, fun j k u w a q1 q2 q3 q4 => ?_, g.pin, g.pnd, fun p' hp' j q => ?_, fun j u q => ?_, fun q hq => ?_, fun q hq d' z => ?_, fun q hq j u z1 z2 => ?_, h.par4, g.lkP, fun q hq => ⟨(h.kp q hq).1, by rw [List.getElem?_set_ne (fun z => hp (by rw [z]; exact (h.kp q hq).1))]; exact (h.kp q hq).2⟩⟩
  · by_cases hj : i = j
    · subst hj
      rw [getr hi] at q
      cases q
    · rw [List.getElem?_set_ne hj] at q ⊢
      exact g.fz j u q
  · by_cases hj : i = j
    · subst hj
      rw [getr hi] at q
      cases q
      refine ⟨p, o, getr hiσ, hH, hc, hF, hZ, fun p' hp' z => (List.nodup_cons.mp h.pnd).1 (List.mem_map.mpr ⟨p', hp', z⟩)⟩
    · rw [List.getElem?_set_ne hj] at q ⊢
      exact g.ow j u q
  · by_cases n1 : i = j
    · by_cases n2 : i = k
      · exact n1.symm.trans n2
      · subst n1
        rw [getr hiσ] at q3
        cases q3
        rw [List.getElem?_set_ne n2] at q2 q4
        exact absurd rfl (np k w p q2 q4)
    · by_cases n2 : i = k
      · subst n2
        rw [getr hiσ] at q4
        cases q4
        rw [List.getElem?_set_ne n1] at q1 q3
        exact absurd rfl (np j u p q1 q3)
      · rw [List.getElem?_set_ne n1] at q1 q3
        rw [List.getElem?_set_ne n2] at q2 q4
        exact h.dist j k u w a q1 q2 q3 q4
  · obtain ⟨h1, d', h2, h3⟩ := g.lock p' hp' j q
    have n1 : i ≠ j := fun z => by subst z; exact hl d' h2
    rw [List.getElem?_set_ne n1, List.getElem?_set_ne n1]
    exact ⟨h1, d', h2, h3⟩
  · by_cases hj : i = j
    · subst hj
      rw [getr hi] at q
      cases q
    · rw [List.getElem?_set_ne hj] at q
      exact g.lks j u q
  · obtain ⟨h1, h2, h3⟩ := h.par q hq
    refine ⟨h1, ?_, h3⟩
    rw [List.getElem?_set_ne (fun z => hp (by rw [z]; exact h1))]
    exact h2
  · rw [List.getElem?_set_ne (fun z => hp (by rw [z]; exact (h.par q hq).1))] at z
    exact h.par2 q hq d' z
  · by_cases n1 : i = j
    · subst n1
      rw [getr hiσ] at z2
      injection z2 with z2
      injection z2 with z2
      injection z2 with z2
      exact absurd z2.symm (hpar q hq)
    · rw [List.getElem?_set_ne n1] at z1 z2
      exact h.par3 q hq j u z1 z2
/-- an own thing is taken out of its slot, and held aside -/
theorem R.take (h : R K fm pr π F σ r H) {i : Nat} {d : D} {a : Addr} (hi : r[i]? = some (.ow d)) (ha : σ[i]? = some (some (.ref a))) : ∃ o, CRep K F o d ∧ R K fm pr (⟨none, a, o⟩ :: π) F σ (r.set i .un) H := by
  obtain ⟨a', o, h1, h2, h3, h4, h5, h6⟩ := h.ow i d hi
  rw [ha] at h1
  cases h1
  have il : i < r.length := (List.getElem?_eq_some_iff.mp hi).1
  refine ⟨o, h3, by rw [List.length_set]; exact h.len, h.sub, h.fr, h.old, h.nw, fun j u q => ?_, fun j u q => ?_, fun j k u w b q1 q2 q3 q4 => ?_, fun p' hp' => ?_, ?_, fun p' hp' j q => ?_, fun j u q => ?_, h.par, fun q hq d' z => ?_, fun q hq j u z1 z2 => ?_, h.par4, fun p' hp' i e => (List.mem_cons.mp hp').elim (fun z => by subst z; cases e) fun z => h.lkP p' z i e, h.kp⟩
  · have n1 : i ≠ j := fun z => by subst z; rw [getr il] at q; cases q
    rw [List.getElem?_set_ne n1] at q
    exact h.fz j u q
  · have n1 : i ≠ j := fun z => by subst z; rw [getr il] at q; cases q
    rw [List.getElem?_set_ne n1] at q
    obtain ⟨b, u', g1, g2, g3, g4, g5, g6⟩ := h.ow j u q
    refine ⟨b, u', g1, g2, g3, g4, g5, fun p' hp' => ?_⟩
    rcases List.mem_cons.mp hp' with rfl | hp'
    · intro z
      have z : a = b := z
      subst z
      exact n1 (h.dist i j d u a hi q ha g1)
    · exact g6 p' hp'
  · have n1 : i ≠ j := fun z => by subst z; rw [getr il] at q1; cases q1
    have n2 : i ≠ k := fun z => by subst z; rw [getr il] at q2; cases q2
    rw [List.getElem?_set_ne n1] at q1
    rw [List.getElem?_set_ne n2] at q2
    exact h.dist j k u w b q1 q2 q3 q4
  · rcases List.mem_cons.mp hp' with rfl | hp'
    · exact ⟨h2, h4, h5⟩
    · exact h.pin p' hp'
  · rw [List.map_cons, List.nodup_cons]
    refine ⟨fun hm => ?_, h.pnd⟩
    obtain ⟨p', hp', e⟩ := List.mem_map.mp hm
    exact h6 p' hp' e
  · rcases List.mem_cons.mp hp' with rfl | hp'
    · cases q
    · obtain ⟨g1, d', g2, g3⟩ := h.lock p' hp' j q
      have n1 : i ≠ j := fun z => by subst z; rw [hi] at g2; cases g2
      exact ⟨g1, d', by rw [List.getElem?_set_ne n1]; exact g2, g3⟩
  · have n1 : i ≠ j := fun z => by subst z; rw [getr il] at q; cases q
    rw [List.getElem?_set_ne n1] at q
    obtain ⟨p', hp', e⟩ := h.lks j u q
    exact ⟨p', List.mem_cons_of_mem _ hp', e⟩
  · have n1 : i ≠ q.1 := fun y => by rw [y] at il z; rw [getr il] at z; cases z
    rw [List.getElem?_set_ne n1] at z
    exact h.par2 q hq d' z
  · have n1 : i ≠ j := fun y => by subst y; rw [getr il] at z1; cases z1
    rw [List.getElem?_set_ne n1] at z1
    exact h.par3 q hq j u z1 z2
/-- .. and put back, in whatever state -/
theorem R.untake {i : Nat} {a : Addr} {o : HO} (h : R K fm pr (⟨none, a, o⟩ :: π) F σ r H) (hi : r[i]? = some .un) (ha : σ[i]? = some (some (.ref a))) {d : D} (hc : CRep K F o d) (hpar : ∀ q ∈ fm.P, q.2 = a → i = q.1) : R K fm pr π F σ (r.set i (.ow d)) H := by
  obtain ⟨hH, hF, hZ⟩ := h.pin ⟨none, a, o⟩ List.mem_cons_self
  have il : i < r.length := (List.getElem?_eq_some_iff.mp hi).1
  have g := h.drop rfl
  have np : ∀ (j : Nat) (u : D) (b : Addr), r[j]? = some (.ow u) → σ[j]? = some (some (.ref b)) → b ≠ a := fun j u b q1 q2 z => by
    obtain ⟨a', u', h1, _, _, _, _, h6⟩ := h.ow j u q1
    rw [q2] at h1
    cases h1
    exact h6 ⟨none, a, o⟩ List.mem_cons_self z.symm
  refine ⟨by rw [List.length_set]; exact h.len, h.sub, h.fr, h.old, h.nw, fun j u q => ?_, fun j u q => ?_, fun j k u w b q1 q2 q3 q4 => ?_, g.pin, g.pnd, fun p' hp' j q => ?_, fun j u q => ?_, h.par, fun q hq d' z => ?_, fun q hq j u z1 z2 => ?_, h.par4, g.lkP, h.kp⟩
  · have n1 : i ≠ j := fun z => by subst z; rw [getr il] at q; cases q
    rw [List.getElem?_set_ne n1] at q
    exact h.fz j u q
  · by_cases n1 : i = j
    · subst n1
      rw [getr il] at q
      cases q
      exact ⟨a, o, ha, hH, hc, hF, hZ, fun p' hp' z => (List.nodup_cons.mp h.pnd).1 (List.mem_map.mpr ⟨p', hp', z⟩)⟩
    · rw [List.getElem?_set_ne n1] at q
      exact g.ow j u q
  · by_cases n1 : i = j
    · by_cases n2 : i = k
      · exact n1.symm.trans n2
      · subst n1
        rw [List.getElem?_set_ne n2] at q2
        rw [ha] at q3
        cases q3
        exact absurd rfl (np k w a q2 q4)
    · by_cases n2 : i = k
      · subst n2
        rw [List.getElem?_set_ne n1] at q1
        rw [ha] at q4
        cases q4
        exact absurd rfl (np j u a q1 q3)
      · rw [List.getElem?_set_ne n1] at q1
        rw [List.getElem?_set_ne n2] at q2
        exact h.dist j k u w b q1 q2 q3 q4
  · obtain ⟨g1, d', g2, g3⟩ := g.lock p' hp' j q
    have n1 : i ≠ j := fun z => by subst z; rw [hi] at g2; cases g2
    exact ⟨g1, d', by rw [List.getElem?_set_ne n1]; exact g2, g3⟩
  · have n1 : i ≠ j := fun z => by subst z; rw [getr il] at q; cases q
    rw [List.getElem?_set_ne n1] at q
    exact g.lks j u q
  · have n1 : i ≠ q.1 := fun y => by rw [y] at il z; rw [getr il] at z; cases z
    rw [List.getElem?_set_ne n1] at z
    exact h.par2 q hq d' z
  · by_cases n1 : i = j
    · subst n1
      rw [ha] at z2
      injection z2 with z2
      injection z2 with z2
      injection z2 with z2
      exact hpar q hq z2.symm
    · rw [List.getElem?_set_ne n1] at z1
      exact h.par3 q hq j u z1 z2
/-- an empty slot: any value of it -/
theorem R.unFz (h : R K fm pr π F σ r H) {i : Nat} {v : V} {d : D} (hi : r[i]? = some .un) (ha : σ[i]? = some (some v)) (hv : Dp K F v d) (hpar : ∀ q ∈ fm.P, q.1 = i → ∃ o, F q.2 = some o ∧ CRep K F o d) : R K fm pr π F σ (r.set i (.fz d)) H := by
  have il : i < r.length := (List.getElem?_eq_some_iff.mp hi).1
  refine ⟨by rw [List.length_set]; exact h.len, h.sub, h.fr, h.old, h.nw, fun j u q => ?_, fun j u q => ?_, fun j k u w b q1 q2 q3 q4 => ?_, h.pin, h.pnd, fun p' hp' j q => ?_, fun j u q => ?_, h.par, fun q hq d' z => ?_, fun q hq j u z1 z2 => ?_, h.par4, h.lkP, h.kp⟩
  · by_cases n1 : i = j
    · subst n1
      rw [getr il] at q
      cases q
      exact ⟨v, ha, hv⟩
    · rw [List.getElem?_set_ne n1] at q
      exact h.fz j u q
  · have n1 : i ≠ j := fun z => by subst z; rw [getr il] at q; cases q
    rw [List.getElem?_set_ne n1] at q
    exact h.ow j u q
  · have n1 : i ≠ j := fun z => by subst z; rw [getr il] at q1; cases q1
    have n2 : i ≠ k := fun z => by subst z; rw [getr il] at q2; cases q2
    rw [List.getElem?_set_ne n1] at q1
    rw [List.getElem?_set_ne n2] at q2
    exact h.dist j k u w b q1 q2 q3 q4
  · obtain ⟨g1, d', g2, g3⟩ := h.lock p' hp' j q
    have n1 : i ≠ j := fun z => by subst z; rw [hi] at g2; cases g2
    exact ⟨g1, d', by rw [List.getElem?_set_ne n1]; exact g2, g3⟩
  · have n1 : i ≠ j := fun z => by subst z; rw [getr il] at q; cases q
    rw [List.getElem?_set_ne n1] at q
    exact h.lks j u q
  · by_cases n1 : i = q.1
    · rw [n1] at il z
      rw [getr il] at z
      cases z
      exact hpar q hq n1.symm
    · rw [List.getElem?_set_ne n1] at z
      exact h.par2 q hq d' z
  · have n1 : i ≠ j := fun y => by subst y; rw [getr il] at z1; cases z1
    rw [List.getElem?_set_ne n1] at z1
    exact h.par3 q hq j u z1 z2
/-- what is held aside is changed -/
theorem R.change {p : Addr} {o o' : HO} (h : R K fm pr (⟨none, p, o⟩ :: π) F σ r H) : R K fm pr (⟨none, p, o'⟩ :: π) F σ r (upd H p o') := by
  obtain ⟨hH, hF, hZ⟩ := h.pin ⟨none, p, o⟩ List.mem_cons_self
  have hF : F p = none := hF
  have pn : ∀ p' ∈ π, p'.a ≠ p := fun p' hp' z => (List.nodup_cons.mp h.pnd).1 (List.mem_map.mpr ⟨p', hp', z⟩)
  refine ⟨h.len, fun a u q => ?_, fun a u z e => ?_, h.old, h.nw, h.fz, fun i d q => ?_, h.dist, fun p' hp' => ?_, h.pnd, fun p' hp' i q => ?_, fun i d q => ?_, h.par, h.par2, h.par3, fun q hq => ?_, fun p' hp' i e => (List.mem_cons.mp hp').elim (fun z => by subst z; cases e) fun z => h.lkP p' (List.mem_cons_of_mem _ z) i e, h.kp⟩
  · have : a ≠ p := fun z => by rw [z, hF] at q; cases q
    rw [upd_ne this]
    exact h.sub a u q
  · have : a ≠ p := fun q => z (by rw [q]; exact hZ)
    rw [upd_ne this]
    exact h.fr a u z e
  · obtain ⟨a, u, h1, h2, h3, h4, h5, h6⟩ := h.ow i d q
    have n : a ≠ p := fun z => h6 ⟨none, p, o⟩ List.mem_cons_self z.symm
    refine ⟨a, u, h1, by rw [upd_ne n]; exact h2, h3, h4, h5, fun p' hp' => ?_⟩
    rcases List.mem_cons.mp hp' with rfl | hp'
    · exact fun z => n z.symm
    · exact h6 p' (List.mem_cons_of_mem _ hp')
  · rcases List.mem_cons.mp hp' with rfl | hp'
    · exact ⟨upd_same, hF, hZ⟩
    · obtain ⟨h1, h2⟩ := h.pin p' (List.mem_cons_of_mem _ hp')
      exact ⟨by rw [upd_ne (pn p' hp')]; exact h1, h2⟩
  · rcases List.mem_cons.mp hp' with rfl | hp'
    · cases q
    · exact h.lock p' (List.mem_cons_of_mem _ hp') i q
  · obtain ⟨p', hp', e⟩ := h.lks i d q
    rcases List.mem_cons.mp hp' with rfl | hp'
    · cases e
    · exact ⟨p', List.mem_cons_of_mem _ hp', e⟩
  · by_cases y : q.2 = p
    · rw [y]
      exact ⟨_, upd_same⟩
    · rw [upd_ne y]
      exact h.par4 q hq
end
end Rk

/-! Rk, part C: readings. -/
namespace Rk
open PySem PySem.Spec PyProof.Rows L2
/-- a settled value -/
def Val (K : Frag) (F : Hp) (σ : St) (v : V) : RV → Prop
  | .fz d => Dp K F v d
  | .pk i => σ[i]? = some (some v)
  | .fr _ => False
theorem Val.mono {K : Frag} {F F' : Hp} {σ : St} {v : V} {x : RV} (h : Val K F σ v x) (e : Ex F F') : Val K F' σ v x := by
  cases x with
  | fz d => exact Dp.mono e _ _ h
  | pk i => exact h
  | fr d => exact h
def RX (K : Frag) (fm : Fm) (pr : List Nat) (π : List Pin) (F : Hp) (σ : St) (r : Ro) (H : Hp) (v : V) : RV → Prop
  | .fz d => R K fm pr π F σ r H ∧ Dp K F v d
  | .pk i => R K fm pr π F σ r H ∧ σ[i]? = some (some v)
  | .fr d => ∃ p o, v = .ref p ∧ R K fm pr (⟨none, p, o⟩ :: π) F σ r H ∧ CRep K F o d ∧ ∀ q ∈ fm.P, q.2 ≠ p
section
variable {α β γ δ : Type} (K : Frag) (pr : List Nat) (W : WX) (cv : String → Value)
def Go (fm : Fm) (π : List Pin) (F : Hp) (σ : St) (res : O α) (P : Hp → Ro → Hp → β → α → Prop) (Q : β → Hp → Prop) : Prop := match res with
  | .no => False
  | .ok x r' => ∀ v F' H', Ex F F' → P F' r' H' v x → Q v H'
  | .ex c r' => ∀ F' H', Ex F F' → R K fm pr π F' σ r' H' → W (cv c) none σ H'
def tO (ev : Ro → O α) (P : Fm → List Pin → St → Hp → Ro → Hp → β → α → Prop) : St → Hp → (β → Hp → Prop) → Prop := fun σ H Q => ∃ fm π F r, R K fm pr π F σ r H ∧ Go K pr W cv fm π F σ (ev r) (P fm π σ) Q
def pX (fm : Fm) (π : List Pin) (σ : St) (F : Hp) (r : Ro) (H : Hp) (v : V) (x : RV) : Prop := RX K fm pr π F σ r H v x
def pS (fm : Fm) (π : List Pin) (σ : St) (F : Hp) (r : Ro) (H : Hp) (v : V) (x : RV) : Prop := R K fm pr π F σ r H ∧ Val K F σ v x
def pD (fm : Fm) (π : List Pin) (σ : St) (F : Hp) (r : Ro) (H : Hp) (v : V) (d : D) : Prop := R K fm pr π F σ r H ∧ Dp K F v d
def pB (fm : Fm) (π : List Pin) (σ : St) (F : Hp) (r : Ro) (H : Hp) (v : Bool) (b : Bool) : Prop := R K fm pr π F σ r H ∧ v = b
def pDs (fm : Fm) (π : List Pin) (σ : St) (F : Hp) (r : Ro) (H : Hp) (vs : List V) (ds : List D) : Prop := R K fm pr π F σ r H ∧ DpAll K F vs ds
def Vall (F : Hp) (σ : St) : List V → List RV → Prop
  | [], [] => True
  | v :: vs, x :: xs => Val K F σ v x ∧ Vall F σ vs xs
  | _, _ => False
def pSs (fm : Fm) (π : List Pin) (σ : St) (F : Hp) (r : Ro) (H : Hp) (vs : List V) (xs : List RV) : Prop := R K fm pr π F σ r H ∧ Vall K F σ vs xs
/-- a call's arguments: the last one may be new -/
def RA (fm : Fm) (π : List Pin) (F : Hp) (σ : St) (r : Ro) (H : Hp) (vs : List V) (xs : List RV) : Prop :=
  ∃ (π' : List Pin) (k0 : Nat), (π' = π ∨ ∃ p o, π' = ⟨none, p, o⟩ :: π ∧ (∀ q ∈ fm.P, q.2 ≠ p)) ∧ R K fm pr π' F σ r H ∧ vs.length = xs.length ∧
    ∀ (k : Nat) (v : V) (x : RV), vs[k]? = some v → xs[k]? = some x → Val K F σ v x ∨ ∃ p o d, v = .ref p ∧ x = .fr d ∧ π' = ⟨none, p, o⟩ :: π ∧ CRep K F o d ∧ k = k0
def pA (fm : Fm) (π : List Pin) (σ : St) (F : Hp) (r : Ro) (H : Hp) (vs : List V) (xs : List RV) : Prop := RA K pr fm π F σ r H vs xs
end
section
variable {α β γ δ : Type} {K : Frag} {pr : List Nat} {W : WX} {cv : String → Value} {fm : Fm} {π : List Pin} {F : Hp} {σ : St}
theorem Vall.mono {F' : Hp} (e : Ex F F') : ∀ {vs : List V} {xs : List RV}, Vall K F σ vs xs → Vall K F' σ vs xs
  | [], [], _ => trivial
  | _ :: _, _ :: _, h => ⟨h.1.mono e, Vall.mono e h.2⟩
  | [], _ :: _, h => h.elim
  | _ :: _, [], h => h.elim
theorem Go.imp {res : O α} {P : Hp → Ro → Hp → β → α → Prop} {Q Q' : β → Hp → Prop} (h : Go K pr W cv fm π F σ res P Q) (k : ∀ v H, Q v H → Q' v H) : Go K pr W cv fm π F σ res P Q' := by
  cases res with
  | no => exact h
  | ok x r => exact fun v F' H' e p => k _ _ (h v F' H' e p)
  | ex c r => exact h
theorem Go.up {res : O α} {P : Hp → Ro → Hp → β → α → Prop} {Q : β → Hp → Prop} {F1 : Hp} (h : Go K pr W cv fm π F σ res P Q) (e1 : Ex F F1) : Go K pr W cv fm π F1 σ res P Q := by
  cases res with
  | no => exact h
  | ok x r => exact fun v F' H' e p => h v F' H' (e1.trans e) p
  | ex c r => exact fun F' H' e p => h F' H' (e1.trans e) p
theorem Go.bind {x : O α} {f : α → Ro → O γ} {Pa : Hp → Ro → Hp → β → α → Prop} {P : Hp → Ro → Hp → δ → γ → Prop} {Q : δ → Hp → Prop} (h : Go K pr W cv fm π F σ (x.bind f) P Q) :
    Go K pr W cv fm π F σ x Pa (fun y H1 => ∃ F1 r1 a, Ex F F1 ∧ Pa F1 r1 H1 y a ∧ Go K pr W cv fm π F1 σ (f a r1) P Q) := by
  cases x with
  | no => exact h
  | ok a r => exact fun v F' H' e p => ⟨F', r, a, e, p, Go.up (show Go K pr W cv fm π F σ (f a r) P Q from h) e⟩
  | ex c r => exact h
/-- the value is there -/
theorem Go.val {a : α} {r : Ro} {P : Hp → Ro → Hp → β → α → Prop} {Q : β → Hp → Prop} (h : Go K pr W cv fm π F σ (.ok a r) P Q) {v : β} {H : Hp} (p : P F r H v a) : Q v H := h v F H (Ex.refl F) p
theorem Go.val2 {a : α} {r : Ro} {P : Hp → Ro → Hp → β → α → Prop} {Q : β → Hp → Prop} (h : Go K pr W cv fm π F σ (.ok a r) P Q) {v : β} {F' H : Hp} (e : Ex F F') (p : P F' r H v a) : Q v H := h v F' H e p
theorem Go.lift {a : Option α} {r : Ro} {P : Hp → Ro → Hp → β → α → Prop} {Q : β → Hp → Prop} (h : Go K pr W cv fm π F σ (O.lift a r) P Q) : ∃ x, a = some x ∧ Go K pr W cv fm π F σ (.ok x r) P Q := by
  cases a with
  | none => exact h.elim
  | some x => exact ⟨x, rfl, h⟩
/-- a new list is let stand -/
theorem RX.settle {r : Ro} {H : Hp} {v : V} {x y : RV} (h : RX K fm pr π F σ r H v x) (e : settle x = some y) : ∃ F', Ex F F' ∧ R K fm pr π F' σ r H ∧ Val K F' σ v y := by
  cases x with
  | fz d =>
    cases e
    exact ⟨F, Ex.refl F, h.1, h.2⟩
  | pk i =>
    cases e
    exact ⟨F, Ex.refl F, h.1, h.2⟩
  | fr d =>
    cases d with
    | list xs =>
      cases e
      obtain ⟨p, o, rfl, hR, hc, _⟩ := h
      obtain ⟨vs, rfl, ha⟩ := hc.list
      have ex := hR.exF
      exact ⟨_, ex, hR.freeze (nfl_lst _), .lst (.inl (.inl upd_same)) (DpAll.mono ex _ _ ha)⟩
    | _ => cases e
theorem Go.settle {res : O RV} {Q : V → Hp → Prop} (h : Go K pr W cv fm π F σ (res.bind fun x r => O.lift (Rk.settle x) r) (pS K pr fm π σ) Q) : Go K pr W cv fm π F σ res (pX K pr fm π σ) Q := by
  refine (Go.bind h).imp fun v H ⟨F1, r1, a, e1, p1, g⟩ => ?_
  obtain ⟨y, ey, g⟩ := g.lift
  obtain ⟨F2, e2, hR, hv⟩ := RX.settle p1 ey
  exact g.val2 e2 ⟨hR, hv⟩
/-- a value put into another thing -/
theorem RX.cap {r r' : Ro} {H : Hp} {v : V} {x : RV} {d : D} (h : RX K fm pr π F σ r H v x) (e : cap r x = some (d, r')) : ∃ F', Ex F F' ∧ R K fm pr π F' σ r' H ∧ Dp K F' v d := by
  cases x with
  | fz d' =>
    cases e
    exact ⟨F, Ex.refl F, h.1, h.2⟩
  | fr d' =>
    cases d' with
    | list xs =>
      cases e
      obtain ⟨p, o, rfl, hR, hc, _⟩ := h
      obtain ⟨vs, rfl, ha⟩ := hc.list
      have ex := hR.exF
      exact ⟨_, ex, hR.freeze (nfl_lst _), .lst (.inl (.inl upd_same)) (DpAll.mono ex _ _ ha)⟩
    | _ => cases e
  | pk i =>
    obtain ⟨hR, hσ⟩ := h
    unfold Rk.cap at e
    cases hi : r[i]? with
    | none => simp only [hi] at e; cases e
    | some s =>
      simp only [hi] at e
      cases s with
      | un => cases e
      | lk d' => cases e
      | fz d' =>
        cases e
        obtain ⟨v', h1, h2⟩ := hR.fz i _ hi
        rw [hσ] at h1
        cases h1
        exact ⟨F, Ex.refl F, hR, h2⟩
      | ow d' =>
        cases d' with
        | list xs =>
          cases e
          obtain ⟨a, o, h1, _⟩ := hR.ow i _ hi
          rw [hσ] at h1
          cases h1
          obtain ⟨o, hc, hR2⟩ := hR.take hi hσ
          obtain ⟨vs, rfl, ha⟩ := hc.list
          have ex := hR2.exF
          have il : i < r.length := (List.getElem?_eq_some_iff.mp hi).1
          have hd : Dp K (upd F a (.lst vs)) (.ref a) (.list xs) := .lst (.inl (.inl upd_same)) (DpAll.mono ex _ _ ha)
          have g := (hR2.freeze (nfl_lst _)).unFz (i := i) (by rw [getr il]) hσ hd (fun q hq e1 => by
            have e2 := (hR.par q hq).2.1
            rw [e1, hσ] at e2
            injection e2 with e2
            injection e2 with e2
            injection e2 with e2
            rw [← e2]
            exact ⟨_, upd_same, .lst (DpAll.mono ex _ _ ha)⟩)
          rw [List.set_set] at g
          exact ⟨_, ex, g, hd⟩
        | _ => cases e
theorem Go.cap {res : O RV} {Q : V → Hp → Prop} (h : Go K pr W cv fm π F σ (res.bind fun x r => match Rk.cap r x with
    | some (d, r) => .ok d r
    | none => .no) (pD K pr fm π σ) Q) : Go K pr W cv fm π F σ res (pX K pr fm π σ) Q := by
  refine (Go.bind h).imp fun v H ⟨F1, r1, a, e1, p1, g⟩ => ?_
  cases ec : Rk.cap r1 a with
  | none => rw [ec] at g; exact g.elim
  | some q =>
    obtain ⟨d, r2⟩ := q
    rw [ec] at g
    obtain ⟨F2, e2, hR, hd⟩ := RX.cap p1 ec
    exact g.val2 e2 ⟨hR, hd⟩
/-- what is read -/
theorem R.rdV {r : Ro} {H : Hp} {v : V} {x : RV} {d : D} (h : R K fm pr π F σ r H) (hv : Val K F σ v x) (e : rd r x = some d) :
    Dp K H v d ∨ (∃ a o, v = .ref a ∧ H a = some o ∧ CRep K F o d) := by
  cases x with
  | fr d' => exact hv.elim
  | fz d' =>
    cases e
    exact .inl (Dp.mono h.sub _ _ hv)
  | pk i =>
    unfold rd at e
    cases hi : r[i]? with
    | none => simp only [hi] at e; cases e
    | some s =>
      simp only [hi] at e
      have hv : σ[i]? = some (some v) := hv
      cases s with
      | un => cases e
      | fz d' =>
        cases e
        obtain ⟨v', h1, h2⟩ := h.fz i _ hi
        rw [hv] at h1
        cases h1
        exact .inl (Dp.mono h.sub _ _ h2)
      | ow d' =>
        cases e
        obtain ⟨a, o, h1, h2, h3, _⟩ := h.ow i _ hi
        rw [hv] at h1
        cases h1
        exact .inr ⟨a, o, rfl, h2, h3⟩
      | lk d' =>
        cases e
        obtain ⟨p, hp, hs⟩ := h.lks i _ hi
        obtain ⟨h1, d2, h2, h3⟩ := h.lock p hp i hs
        rw [hv] at h1
        cases h1
        rw [hi] at h2
        cases h2
        exact .inr ⟨p.a, p.o, rfl, (h.pin p hp).1, h3⟩
theorem R.rdX {r : Ro} {H : Hp} {v : V} {x : RV} {d : D} (h : RX K fm pr π F σ r H v x) (e : rd r x = some d) :
    R K fm pr π F σ r H ∧ (Dp K H v d ∨ (∃ a o, v = .ref a ∧ H a = some o ∧ CRep K F o d)) := by
  cases x with
  | fz d' => exact ⟨h.1, h.1.rdV (x := .fz d') h.2 e⟩
  | pk i => exact ⟨h.1, h.1.rdV (x := .pk i) h.2 e⟩
  | fr d' =>
    cases e
    obtain ⟨p, o, rfl, hR, hc, _⟩ := h
    exact ⟨hR.drop rfl, .inr ⟨p, o, rfl, (hR.pin ⟨none, p, o⟩ List.mem_cons_self).1, hc⟩⟩
/-- .. as data -/
theorem R.dp {r : Ro} {H : Hp} {v : V} {d : D} (h : R K fm pr π F σ r H) (k : Dp K H v d ∨ (∃ a o, v = .ref a ∧ H a = some o ∧ CRep K F o d)) (nd : isDict d = false) : Dp K H v d := by
  rcases k with k | ⟨a, o, rfl, h1, h2⟩
  · exact k
  · cases h2 with
    | lst h2 => exact .lst (.inl (.inl h1)) (DpAll.mono h.sub _ _ h2)
    | dc _ => cases nd
/-- the items of a list or tuple, still: known to what stands -/
theorem R.items {r : Ro} {H : Hp} {v : V} {x : RV} {d : D} {ds : List D} (h : R K fm pr π F σ r H) (hv : Val K F σ v x) (e : rd r x = some d) (es : seqD d = some ds) :
    ∃ a vs, v = .ref a ∧ DpAll K F vs ds ∧ ((d = .list ds ∧ SqL K H a vs) ∨ (d = .tuple ds ∧ TqT K H a vs)) := by
  have key : (Dp K F v d) ∨ (∃ a o, v = .ref a ∧ H a = some o ∧ CRep K F o d) := by
    cases x with
    | fr d' => exact hv.elim
    | fz d' => cases e; exact .inl hv
    | pk i =>
      unfold rd at e
      cases hi : r[i]? with
      | none => simp only [hi] at e; cases e
      | some s =>
        simp only [hi] at e
        have hv : σ[i]? = some (some v) := hv
        cases s with
        | un => cases e
        | fz d' =>
          cases e
          obtain ⟨v', h1, h2⟩ := h.fz i _ hi
          rw [hv] at h1
          cases h1
          exact .inl h2
        | ow d' =>
          cases e
          obtain ⟨a, o, h1, h2, h3, _⟩ := h.ow i _ hi
          rw [hv] at h1
          cases h1
          exact .inr ⟨a, o, rfl, h2, h3⟩
        | lk d' =>
          cases e
          obtain ⟨p, hp, hs⟩ := h.lks i _ hi
          obtain ⟨h1, d2, h2, h3⟩ := h.lock p hp i hs
          rw [hv] at h1
          cases h1
          rw [hi] at h2
          cases h2
          exact .inr ⟨p.a, p.o, rfl, (h.pin p hp).1, h3⟩
  rcases key with k | ⟨a, o, rfl, h1, h2⟩
  · cases d with
    | list xs =>
      cases es
      cases k with
      | lst hs ha => exact ⟨_, _, rfl, ha, .inl ⟨rfl, ex_l h.sub hs⟩⟩
    | tuple xs =>
      cases es
      cases k with
      | tup hs ha => exact ⟨_, _, rfl, ha, .inr ⟨rfl, ex_q h.sub hs⟩⟩
    | _ => cases es
  · cases h2 with
    | lst h2 =>
      cases es
      exact ⟨_, _, rfl, h2, .inl ⟨rfl, .inl (.inl h1)⟩⟩
    | dc _ => cases es
end
end Rk

/-! Rk, part D: calls. -/
namespace Rk
open PySem PySem.Spec PyProof.Rows L2
/-- the address a is that of an own argument -/
def OwnA (vs : List V) (as : List Arg) (a : Addr) : Prop := ∃ (k : Nat) (d : D), as[k]? = some (.ow d) ∧ vs[k]? = some (V.ref a)
structure ArgsRep (K : Frag) (F H : Hp) (vs : List V) (as : List Arg) : Prop where
  len : vs.length = as.length
  fz : ∀ (k : Nat) (v : V) (d : D), vs[k]? = some v → as[k]? = some (.fz d) → Dp K F v d
  ow : ∀ (k : Nat) (v : V) (d : D), vs[k]? = some v → as[k]? = some (.ow d) → ∃ a o, v = .ref a ∧ H a = some o ∧ CRep K F o d ∧ F a = none
  nd : ∀ (k l : Nat) (d e : D) (a : Addr), as[k]? = some (.ow d) → as[l]? = some (.ow e) → vs[k]? = some (V.ref a) → vs[l]? = some (V.ref a) → k = l
structure OutsRep (K : Frag) (F H : Hp) (vs : List V) (as outs : List Arg) : Prop where
  len : outs.length = as.length
  ow : ∀ (k : Nat) (a : Addr) (d d' : D), vs[k]? = some (V.ref a) → as[k]? = some (.ow d) → outs[k]? = some (.ow d') → ∃ o, H a = some o ∧ CRep K F o d' ∧ F a = none
  fz : ∀ (k : Nat) (a : Addr) (d d' : D), vs[k]? = some (V.ref a) → as[k]? = some (.ow d) → outs[k]? = some (.fz d') → ∃ o, F a = some o ∧ CRep K F o d' ∧ Dp K F (.ref a) d'
/-- what is so behind a call -/
structure Aft (K : Frag) (F H : Hp) (vs : List V) (as outs : List Arg) (F' H' : Hp) : Prop where
  ex : Ex F F'
  sub : Ex F' H'
  fr : ∀ a o, ¬ OwnA vs as a → H a = some o → H' a = some o
  nw : ∀ a o, F' a = some o → (∃ o', F a = some o') ∨ ((H a = none ∨ OwnA vs as a) ∧ nfl o)
  outs : OutsRep K F' H' vs as outs
def spOf (K : Frag) (cv : String → Value) (n : Nat) (fn : Fn) : Sp := fun vs H Q E => vs.length = n ∧ ∃ F as out outs, Ex F H ∧ ArgsRep K F H vs as ∧ fn as = some (out, outs) ∧
  ∀ F' H', Aft K F H vs as outs F' H' → match out with
    | .ex c => E (cv c) none H'
    | .val (.fz d) => ∀ v, Dp K F' v d → Q v H'
    | .val (.ow d) => ∀ p o, H p = none → F' p = none → H' p = some o → CRep K F' o d → Q (.ref p) H'

theorem nodupB_cons {i : Nat} {l : List Nat} (h : nodupB (i :: l) = true) : i ∉ l ∧ nodupB l = true := by
  unfold nodupB at h
  obtain ⟨h1, h2⟩ := Bool.and_eq_true_iff.mp h
  exact ⟨fun z => by simp [z] at h1, h2⟩
theorem mem_pkOwn {r : Ro} {i : Nat} {d : D} (hd : r[i]? = some (.ow d)) : ∀ {xs : List RV} {k : Nat}, xs[k]? = some (.pk i) → i ∈ pkOwn r xs
  | [], _, h => by simp at h
  | x :: xs, 0, h => by
    have e : x = .pk i := by simpa using h
    subst e
    unfold pkOwn
    simp only [hd]
    exact List.mem_cons_self
  | x :: xs, k + 1, h => by
    have ih := mem_pkOwn (xs := xs) (k := k) hd (by simpa using h)
    cases x with
    | pk j =>
      unfold pkOwn
      split
      · exact List.mem_cons_of_mem _ ih
      · exact ih
    | fz _ => exact ih
    | fr _ => exact ih
theorem back_out {r0 : Ro} {i : Nat} : ∀ {xs : List RV} {as : List Arg} {r : Ro}, i ∉ pkOwn r0 xs → (backArgs r0 xs as r)[i]? = r[i]?
  | [], as, r, _ => by cases as <;> rfl
  | x :: xs, [], r, _ => by cases x <;> rfl
  | x :: xs, a :: as, r, h => by
    cases x with
    | fz _ => exact back_out (xs := xs) (as := as) (r := r) h
    | fr _ => exact back_out (xs := xs) (as := as) (r := r) h
    | pk j =>
      unfold pkOwn at h
      unfold backArgs
      cases hj : r0[j]? with
      | none =>
        simp only [hj] at h
        exact back_out h
      | some s =>
        simp only [hj] at h
        cases s with
        | ow d =>
          have h1 : i ≠ j ∧ i ∉ pkOwn r0 xs := by simpa using h
          have e := back_out (as := as) (r := r.set j a.sl) h1.2
          rw [List.getElem?_set_ne (Ne.symm h1.1)] at e
          exact e
        | un => exact back_out h
        | fz _ => exact back_out h
        | lk _ => exact back_out h
theorem back_in {r0 : Ro} {i : Nat} {d : D} {b : Arg} (hd : r0[i]? = some (.ow d)) : ∀ {xs : List RV} {as : List Arg} {r : Ro} {k : Nat}, nodupB (pkOwn r0 xs) = true → i < r.length → xs[k]? = some (.pk i) → as[k]? = some b →
    (backArgs r0 xs as r)[i]? = some b.sl
  | [], _, _, _, _, _, h, _ => by simp at h
  | _ :: _, [], _, _, _, _, _, h => by simp at h
  | x :: xs, a :: as, r, 0, hn, hl, hx, ha => by
    have e : x = .pk i := by simpa using hx
    have e2 : a = b := by simpa using ha
    subst e
    subst e2
    unfold pkOwn at hn
    simp only [hd] at hn
    obtain ⟨n1, _⟩ := nodupB_cons hn
    unfold backArgs
    simp only [hd]
    rw [back_out n1, getr hl]
  | x :: xs, a :: as, r, k + 1, hn, hl, hx, ha => by
    have hx' : xs[k]? = some (.pk i) := by simpa using hx
    have ha' : as[k]? = some b := by simpa using ha
    cases x with
    | fz _ => exact back_in (xs := xs) (as := as) (k := k) hd hn hl hx' ha'
    | fr _ => exact back_in (xs := xs) (as := as) (k := k) hd hn hl hx' ha'
    | pk j =>
      unfold pkOwn at hn
      unfold backArgs
      cases hj : r0[j]? with
      | none =>
        simp only [hj] at hn
        exact back_in hd hn hl hx' ha'
      | some s =>
        simp only [hj] at hn
        cases s with
        | ow d' => exact back_in hd (nodupB_cons hn).2 (by rw [List.length_set]; exact hl) hx' ha'
        | un => exact back_in hd hn hl hx' ha'
        | fz _ => exact back_in hd hn hl hx' ha'
        | lk _ => exact back_in hd hn hl hx' ha'
theorem back_len {r0 : Ro} : ∀ {xs : List RV} {as : List Arg} {r : Ro}, (backArgs r0 xs as r).length = r.length
  | [], as, r => by cases as <;> rfl
  | x :: xs, [], r => by cases x <;> rfl
  | x :: xs, a :: as, r => by
    cases x with
    | fz _ => exact back_len (xs := xs) (as := as) (r := r)
    | fr _ => exact back_len (xs := xs) (as := as) (r := r)
    | pk j =>
      unfold backArgs
      split
      · rw [back_len, List.length_set]
      · exact back_len
/-- where an index is own behind: it was ahead -/
theorem back_cases {r0 : Ro} {i : Nat} {xs : List RV} {as outs : List Arg} (hn : nodupB (pkOwn r0 xs) = true) (hl : outs.length = xs.length) :
    (backArgs r0 xs outs r0)[i]? = r0[i]? ∧ i ∉ pkOwn r0 xs ∨ ∃ (k : Nat) (d : D) (b : Arg), xs[k]? = some (.pk i) ∧ r0[i]? = some (.ow d) ∧ outs[k]? = some b ∧ (backArgs r0 xs outs r0)[i]? = some b.sl := by
  by_cases h : i ∈ pkOwn r0 xs
  · right
    have key : ∀ {ys : List RV}, i ∈ pkOwn r0 ys → ∃ (k : Nat) (d : D), ys[k]? = some (.pk i) ∧ r0[i]? = some (.ow d) := by
      intro ys
      induction ys with
      | nil => intro h; cases h
      | cons x ys ih =>
        intro h
        cases x with
        | fz _ =>
          obtain ⟨k, d, h1, h2⟩ := ih h
          exact ⟨k + 1, d, by simpa using h1, h2⟩
        | fr _ =>
          obtain ⟨k, d, h1, h2⟩ := ih h
          exact ⟨k + 1, d, by simpa using h1, h2⟩
        | pk j =>
          unfold pkOwn at h
          split at h
          · rename_i d hj
            rcases List.mem_cons.mp h with e | h
            · subst e
              exact ⟨0, d, rfl, hj⟩
            · obtain ⟨k, d, h1, h2⟩ := ih h
              exact ⟨k + 1, d, by simpa using h1, h2⟩
          · obtain ⟨k, d, h1, h2⟩ := ih h
            exact ⟨k + 1, d, by simpa using h1, h2⟩
    obtain ⟨k, d, h1, h2⟩ := key h
    have hk : k < outs.length := by rw [hl]; exact (List.getElem?_eq_some_iff.mp h1).1
    exact ⟨k, d, outs[k], h1, h2, by simp [hk], back_in h2 hn (List.getElem?_eq_some_iff.mp h2).1 h1 (by simp [hk])⟩
  · exact .inl ⟨back_out h, h⟩
section
variable {K : Frag} {pr : List Nat} {W : WX} {cv : String → Value} {fm : Fm} {π : List Pin} {F : Hp} {σ : St} {r : Ro} {H : Hp}
/-- the arguments of a call as they stand -/
theorem args_at : ∀ {xs : List RV} {as : List Arg}, argsOf r xs = some as → xs.length = as.length ∧ ∀ (k : Nat) (x : RV) (a : Arg), xs[k]? = some x → as[k]? = some a → argOf r x = some a
  | [], as, h => by
    cases h
    exact ⟨rfl, fun k x a hx _ => by simp at hx⟩
  | x :: xs, as, h => by
    unfold argsOf at h
    split at h
    · rename_i a as' h1 h2
      cases h
      obtain ⟨hl, ih⟩ := args_at h2
      refine ⟨by rw [List.length_cons, List.length_cons, hl], fun k y b hy hb => ?_⟩
      cases k with
      | zero =>
        simp at hy hb
        subst hy
        subst hb
        exact h1
      | succ k => exact ih k y b (by simpa using hy) (by simpa using hb)
    · cases h
theorem pk_idx {xs : List RV} (hn : nodupB (pkOwn r xs) = true) : ∀ {k l i : Nat} {d : D}, r[i]? = some (.ow d) → xs[k]? = some (.pk i) → xs[l]? = some (.pk i) → k = l := by
  induction xs with
  | nil => intro k l i d _ h; simp at h
  | cons x xs ih =>
    intro k l i d hd hk hl
    have tl : nodupB (pkOwn r xs) = true := by
      cases x with
      | fz _ => exact hn
      | fr _ => exact hn
      | pk j =>
        unfold pkOwn at hn
        split at hn
        · exact (nodupB_cons hn).2
        · exact hn
    cases k with
    | zero =>
      cases l with
      | zero => rfl
      | succ l =>
        have e : x = .pk i := by simpa using hk
        subst e
        unfold pkOwn at hn
        simp only [hd] at hn
        exact absurd (mem_pkOwn hd (k := l) (by simpa using hl)) (nodupB_cons hn).1
    | succ k =>
      cases l with
      | zero =>
        have e : x = .pk i := by simpa using hl
        subst e
        unfold pkOwn at hn
        simp only [hd] at hn
        exact absurd (mem_pkOwn hd (k := k) (by simpa using hk)) (nodupB_cons hn).1
      | succ l => exact congrArg Nat.succ (ih tl hd (by simpa using hk) (by simpa using hl))
/-- the arguments, as the callee has them -/
theorem RA.rep {vs : List V} {xs : List RV} {as : List Arg} (h : RA K pr fm π F σ r H vs xs) (ha : argsOf r xs = some as) (hn : nodupB (pkOwn r xs) = true) : ArgsRep K F H vs as := by
  obtain ⟨π', k0, eπ, hR, hl, hv⟩ := id h
  obtain ⟨hl2, hx⟩ := args_at ha
  have len : vs.length = as.length := hl.trans hl2
  have getx : ∀ (k : Nat) (a : Arg), as[k]? = some a → ∃ x, xs[k]? = some x := fun k a e => by
    have : k < xs.length := by rw [hl2]; exact (List.getElem?_eq_some_iff.mp e).1
    exact ⟨xs[k], by simp [this]⟩
  -- an own argument: in its slot, or new
  have own : ∀ (k : Nat) (v : V) (d : D), vs[k]? = some v → as[k]? = some (.ow d) → ∃ a o, v = .ref a ∧ H a = some o ∧ CRep K F o d ∧ F a = none ∧
      ((∃ i, xs[k]? = some (.pk i) ∧ r[i]? = some (.ow d) ∧ σ[i]? = some (some (.ref a)) ∧ ∀ q ∈ π', q.a ≠ a) ∨ (xs[k]? = some (.fr d) ∧ π' = ⟨none, a, o⟩ :: π ∧ k = k0)) := fun k v d e1 e2 => by
    obtain ⟨x, e3⟩ := getx k _ e2
    have e4 := hx k x _ e3 e2
    rcases hv k v x e1 e3 with z | ⟨p, o, d', rfl, rfl, rfl, hc, hk⟩
    · cases x with
      | fr _ => exact z.elim
      | fz _ => cases e4
      | pk i =>
        unfold argOf at e4
        cases hi : r[i]? with
        | none => simp only [hi] at e4; cases e4
        | some s =>
          simp only [hi] at e4
          cases s with
          | un => cases e4
          | fz _ => cases e4
          | lk _ => cases e4
          | ow d' =>
            cases e4
            obtain ⟨a, o, h1, h2, h3, h4, h5, h6⟩ := hR.ow i _ hi
            have z : σ[i]? = some (some v) := z
            rw [h1] at z
            cases z
            exact ⟨a, o, rfl, h2, h3, h4, .inl ⟨i, e3, hi, h1, h6⟩⟩
    · cases e4
      obtain ⟨h1, h2, h3⟩ := hR.pin ⟨none, p, o⟩ List.mem_cons_self
      exact ⟨p, o, rfl, h1, hc, h2, .inr ⟨e3, rfl, hk⟩⟩
  refine ⟨len, fun k v d e1 e2 => ?_, fun k v d e1 e2 => ?_, fun k l d e a e1 e2 e3 e4 => ?_⟩
  · obtain ⟨x, e3⟩ := getx k _ e2
    have e4 := hx k x _ e3 e2
    rcases hv k v x e1 e3 with z | ⟨p, o, d', rfl, rfl, rfl, hc, hk⟩
    · cases x with
      | fr _ => exact z.elim
      | fz _ => cases e4; exact z
      | pk i =>
        unfold argOf at e4
        cases hi : r[i]? with
        | none => simp only [hi] at e4; cases e4
        | some s =>
          simp only [hi] at e4
          cases s with
          | un => cases e4
          | ow _ => cases e4
          | lk _ => cases e4
          | fz d' =>
            cases e4
            obtain ⟨v', h1, h2⟩ := hR.fz i _ hi
            have z : σ[i]? = some (some v) := z
            rw [h1] at z
            cases z
            exact h2
    · cases e4
  · obtain ⟨a, o, h1, h2, h3, h4, _⟩ := own k v d e1 e2
    exact ⟨a, o, h1, h2, h3, h4⟩
  · obtain ⟨a1, o1, h1, _, _, _, h5⟩ := own k _ d e3 e1
    obtain ⟨a2, o2, g1, _, _, _, g5⟩ := own l _ e e4 e2
    cases h1
    cases g1
    rcases h5 with ⟨i, q1, q2, q3, q4⟩ | ⟨q1, q2, q3⟩
    · rcases g5 with ⟨j, w1, w2, w3, w4⟩ | ⟨w1, w2, w3⟩
      · have ij : i = j := hR.dist i j d e a q2 w2 q3 w3
        subst ij
        exact pk_idx hn q2 q1 w1
      · exact absurd rfl (q4 ⟨none, a, o2⟩ (by rw [w2]; exact List.mem_cons_self))
    · rcases g5 with ⟨j, w1, w2, w3, w4⟩ | ⟨w1, w2, w3⟩
      · exact absurd rfl (w4 ⟨none, a, o1⟩ (by rw [q2]; exact List.mem_cons_self))
      · omega
/-- the state behind a call -/
theorem RA.after {vs : List V} {xs : List RV} {as outs : List Arg} {F' H' : Hp} (h : RA K pr fm π F σ r H vs xs) (ha : argsOf r xs = some as) (hn : nodupB (pkOwn r xs) = true) (af : Aft K F H vs as outs F' H') :
    R K fm pr π F' σ (backArgs r xs outs r) H' := by
  obtain ⟨π', k0, eπ, hR', hl, hv⟩ := id h
  obtain ⟨hl2, hx⟩ := args_at ha
  have hol : outs.length = xs.length := by rw [hl2]; exact af.outs.len
  have hR : R K fm pr π F σ r H := by
    rcases eπ with rfl | ⟨p, o, rfl, _⟩
    · exact hR'
    · exact hR'.drop rfl
  have sub' : ∀ q ∈ π, q ∈ π' := fun q hq => by
    rcases eπ with rfl | ⟨p, o, rfl, _⟩
    · exact hq
    · exact List.mem_cons_of_mem _ hq
  -- an own argument's address: a slot's, or the new one's
  have own : ∀ a, OwnA vs as a → (∃ (i k : Nat) (d : D), xs[k]? = some (.pk i) ∧ r[i]? = some (.ow d) ∧ σ[i]? = some (some (.ref a)) ∧ as[k]? = some (.ow d) ∧ vs[k]? = some (V.ref a)) ∨ ∃ o, π' = ⟨none, a, o⟩ :: π ∧ ∀ q ∈ fm.P, q.2 ≠ a := fun a ⟨k, d, e1, e2⟩ => by
    have hk : k < xs.length := by rw [hl2]; exact (List.getElem?_eq_some_iff.mp e1).1
    have e3 : xs[k]? = some xs[k] := by simp [hk]
    have e4 := hx k _ _ e3 e1
    rcases hv k _ _ e2 e3 with z | ⟨p, o, d', e5, e6, rfl, hc, _⟩
    · cases hxk : xs[k] with
      | fr _ => rw [hxk] at z; exact z.elim
      | fz _ => rw [hxk] at e4; cases e4
      | pk i =>
        rw [hxk] at z e4 e3
        unfold argOf at e4
        cases hi : r[i]? with
        | none => simp only [hi] at e4; cases e4
        | some s =>
          simp only [hi] at e4
          cases s with
          | un => cases e4
          | fz _ => cases e4
          | lk _ => cases e4
          | ow d' =>
            cases e4
            exact .inl ⟨i, k, d, e3, hi, z, e1, e2⟩
    · cases e5
      rcases eπ with e | ⟨p', o', e, hq⟩
      · have := congrArg List.length e
        simp at this
      · injection e with e1 _
        injection e1 with _ e1 _
        subst e1
        exact .inr ⟨o, rfl, hq⟩
  have ownZ : ∀ a, OwnA vs as a → fm.Z a := fun a ho => by
    rcases own a ho with ⟨i, k, d, _, h2, h3, _⟩ | ⟨o, e, _⟩
    · obtain ⟨a', o', g1, _, _, _, g5, _⟩ := hR.ow i d h2
      rw [h3] at g1
      cases g1
      exact g5
    · exact (hR'.pin ⟨none, a, o⟩ (by rw [e]; exact List.mem_cons_self)).2.2
  have pinN : ∀ p ∈ π, ¬ OwnA vs as p.a := fun p hp ho => by
    rcases own p.a ho with ⟨i, k, d, _, h2, h3, _⟩ | ⟨o, e, _⟩
    · obtain ⟨a', o', g1, _, _, _, _, g6⟩ := hR.ow i d h2
      rw [h3] at g1
      cases g1
      exact g6 p hp rfl
    · have nd := hR'.pnd
      rw [e, List.map_cons, List.nodup_cons] at nd
      exact nd.1 (List.mem_map.mpr ⟨p, hp, rfl⟩)
  -- a slot that is own and not handed in
  have slotN : ∀ (i : Nat) (d : D) (a : Addr), r[i]? = some (.ow d) → σ[i]? = some (some (.ref a)) → i ∉ pkOwn r xs → ¬ OwnA vs as a := fun i d a h1 h2 h3 ho => by
    rcases own a ho with ⟨j, k, d', g1, g2, g3, _⟩ | ⟨o, e, _⟩
    · have : i = j := hR.dist i j d d' a h1 g2 h2 g3
      subst this
      exact h3 (mem_pkOwn h1 g1)
    · obtain ⟨a', o', g1, _, _, _, _, g6⟩ := hR'.ow i d h1
      rw [h2] at g1
      cases g1
      exact g6 ⟨none, a, o⟩ (by rw [e]; exact List.mem_cons_self) rfl
  -- F' has nothing at what was tracked and is not handed in
  have noF : ∀ a o, H a = some o → F a = none → ¬ OwnA vs as a → F' a = none := fun a o h1 h2 h3 => by
    cases e : F' a with
    | none => rfl
    | some u =>
      rcases af.nw a u e with ⟨o', z⟩ | ⟨z | z, _⟩
      · rw [h2] at z; cases z
      · rw [h1] at z; cases z
      · exact absurd z h3
  have cases' := fun (i : Nat) => back_cases (i := i) (as := as) hn hol
  -- a slot that was handed in
  have handed : ∀ (i k : Nat) (d : D), xs[k]? = some (.pk i) → r[i]? = some (.ow d) → ∃ a, σ[i]? = some (some (.ref a)) ∧ vs[k]? = some (V.ref a) ∧ as[k]? = some (.ow d) := fun i k d h1 h2 => by
    have hk : k < xs.length := (List.getElem?_eq_some_iff.mp h1).1
    have hkv : k < vs.length := by rw [hl]; exact hk
    have hka : k < as.length := by rw [← hl2]; exact hk
    have e3 : vs[k]? = some vs[k] := by simp [hkv]
    have e5 : as[k]? = some as[k] := by simp [hka]
    have e4 := hx k _ _ h1 e5
    unfold argOf at e4
    simp only [h2] at e4
    have e4 := Option.some.inj e4
    rcases hv k _ _ e3 h1 with z | ⟨p, o, d', _, e6, _⟩
    · obtain ⟨a', o', g1, _⟩ := hR.ow i d h2
      have z : σ[i]? = some (some vs[k]) := z
      rw [g1] at z
      injection z with z
      injection z with z
      exact ⟨a', g1, by rw [e3, ← z], by rw [e5, ← e4]⟩
    · cases e6
  have wasOw : ∀ (i : Nat) (d : D), (backArgs r xs outs r)[i]? = some (.ow d) → ∃ d0, r[i]? = some (.ow d0) := fun i d e => by
    rcases cases' i with ⟨e1, _⟩ | ⟨k, d0, b, _, h2, _⟩
    · rw [e1] at e
      exact ⟨d, e⟩
    · exact ⟨d0, h2⟩
  refine ⟨by rw [back_len]; exact hR.len, af.sub, fun a o z e => af.fr a o (fun q => z (ownZ a q)) (hR.fr a o z e), hR.old.trans af.ex, fun a o e => ?_, fun i d e => ?_, fun i d e => ?_, fun i j d e a h1 h2 h3 h4 => ?_, fun p hp => ?_, hR.pnd, fun p hp i e => ?_, fun i d e => ?_, hR.par, fun q hq d e => ?_, fun q hq i d h1 h2 => ?_, fun q hq => ?_, hR.lkP, hR.kp⟩
  · rcases af.nw a o e with ⟨o', z⟩ | ⟨z | z, nn⟩
    · have := af.ex a o' z
      rw [e] at this
      cases this
      exact hR.nw a o z
    · exact .inr ⟨hR.znew z, nn⟩
    · exact .inr ⟨ownZ a z, nn⟩
  · rcases cases' i with ⟨e1, _⟩ | ⟨k, d0, b, h1, h2, h3, h4⟩
    · rw [e1] at e
      obtain ⟨v, g1, g2⟩ := hR.fz i d e
      exact ⟨v, g1, Dp.mono af.ex _ _ g2⟩
    · rw [h4] at e
      obtain ⟨a, g1, g2, g3⟩ := handed i k d0 h1 h2
      cases b with
      | ow _ => cases e
      | fz d' =>
        cases e
        obtain ⟨o, _, _, g4⟩ := af.outs.fz k a d0 d g2 g3 h3
        exact ⟨_, g1, g4⟩
  · rcases cases' i with ⟨e1, n1⟩ | ⟨k, d0, b, h1, h2, h3, h4⟩
    · rw [e1] at e
      obtain ⟨a, o, g1, g2, g3, g4, g5, g6⟩ := hR.ow i d e
      have na := slotN i d a e g1 n1
      exact ⟨a, o, g1, af.fr a o na g2, g3.mono af.ex, noF a o g2 g4 na, g5, g6⟩
    · rw [h4] at e
      obtain ⟨a, g1, g2, g3⟩ := handed i k d0 h1 h2
      cases b with
      | fz _ => cases e
      | ow d' =>
        cases e
        obtain ⟨o, w1, w2, w3⟩ := af.outs.ow k a d0 d g2 g3 h3
        obtain ⟨a', o', y1, _, _, _, y5, y6⟩ := hR.ow i d0 h2
        rw [g1] at y1
        cases y1
        exact ⟨a, o, g1, w1, w2, w3, y5, y6⟩
  · obtain ⟨d0, y1⟩ := wasOw i d h1
    obtain ⟨d1, y2⟩ := wasOw j e h2
    exact hR.dist i j d0 d1 a y1 y2 h3 h4
  · obtain ⟨g1, g2, g3⟩ := hR.pin p hp
    have na := pinN p hp
    exact ⟨af.fr _ _ na g1, noF _ _ g1 g2 na, g3⟩
  · obtain ⟨g1, d, g2, g3⟩ := hR.lock p hp i e
    refine ⟨g1, d, ?_, g3.mono af.ex⟩
    rcases cases' i with ⟨e1, _⟩ | ⟨k, d0, b, h1, h2, h3, h4⟩
    · rw [e1]
      exact g2
    · rw [g2] at h2
      cases h2
  · rcases cases' i with ⟨e1, _⟩ | ⟨k, d0, b, h1, h2, h3, h4⟩
    · rw [e1] at e
      exact hR.lks i d e
    · rw [h4] at e
      cases b <;> cases e
  · rcases cases' q.1 with ⟨e1, _⟩ | ⟨k, d0, b, h1, h2, h3, h4⟩
    · rw [e1] at e
      obtain ⟨o, g1, g2⟩ := hR.par2 q hq d e
      exact ⟨o, af.ex _ _ g1, g2.mono af.ex⟩
    · rw [h4] at e
      obtain ⟨a, g1, g2, g3⟩ := handed q.1 k d0 h1 h2
      have := (hR.par q hq).2.1
      rw [g1] at this
      injection this with this
      injection this with this
      injection this with this
      cases b with
      | ow _ => cases e
      | fz d' =>
        cases e
        obtain ⟨o, w1, w2, _⟩ := af.outs.fz k a d0 d g2 g3 h3
        rw [← this]
        exact ⟨o, w1, w2⟩
  · obtain ⟨d0, y1⟩ := wasOw i d h1
    exact hR.par3 q hq i d0 y1 h2
  · obtain ⟨o, g⟩ := hR.par4 q hq
    by_cases ho : OwnA vs as q.2
    · rcases own q.2 ho with ⟨i, k, d, h1, h2, h3, h4, h5⟩ | ⟨o', e, hne⟩
      · have hk : k < outs.length := by rw [hol]; exact (List.getElem?_eq_some_iff.mp h1).1
        have e3 : outs[k]? = some outs[k] := by simp [hk]
        cases hb : outs[k] with
        | ow d' =>
          rw [hb] at e3
          obtain ⟨u, w1, _⟩ := af.outs.ow k q.2 d d' h5 h4 e3
          exact ⟨u, w1⟩
        | fz d' =>
          rw [hb] at e3
          obtain ⟨u, w1, _⟩ := af.outs.fz k q.2 d d' h5 h4 e3
          exact ⟨u, af.sub _ _ w1⟩
      · exact absurd rfl (hne q hq)
    · exact ⟨o, af.fr _ _ ho g⟩
/-- a thing that nobody owns is held aside -/
theorem R.addPin {p : Addr} {o : HO} (h : R K fm pr π F σ r H) (hH : H p = some o) (hF : F p = none) (hZ : fm.Z p) (h1 : ∀ (i : Nat) (d : D), r[i]? = some (.ow d) → σ[i]? ≠ some (some (V.ref p))) (h2 : ∀ q ∈ π, q.a ≠ p) :
    R K fm pr (⟨none, p, o⟩ :: π) F σ r H := by
  refine ⟨h.len, h.sub, h.fr, h.old, h.nw, h.fz, fun i d e => ?_, h.dist, fun q hq => ?_, ?_, fun q hq i e => ?_, fun i d e => ?_, h.par, h.par2, h.par3, h.par4, fun p' hp' i e => (List.mem_cons.mp hp').elim (fun z => by subst z; cases e) fun z => h.lkP p' z i e, h.kp⟩
  · obtain ⟨a, u, g1, g2, g3, g4, g5, g6⟩ := h.ow i d e
    refine ⟨a, u, g1, g2, g3, g4, g5, fun q hq => ?_⟩
    rcases List.mem_cons.mp hq with rfl | hq
    · intro z
      have z : p = a := z
      subst z
      exact h1 i d e g1
    · exact g6 q hq
  · rcases List.mem_cons.mp hq with rfl | hq
    · exact ⟨hH, hF, hZ⟩
    · exact h.pin q hq
  · rw [List.map_cons, List.nodup_cons]
    refine ⟨fun hm => ?_, h.pnd⟩
    obtain ⟨q, hq, e⟩ := List.mem_map.mp hm
    exact h2 q hq e
  · rcases List.mem_cons.mp hq with rfl | hq
    · cases e
    · exact h.lock q hq i e
  · obtain ⟨q, hq, e'⟩ := h.lks i d e
    exact ⟨q, List.mem_cons_of_mem _ hq, e'⟩
/-- THE CALL: what the callee asks -/
theorem call_ok {vs : List V} {xs : List RV} {as outs : List Arg} {out : Out} {fn : Fn} {n : Nat} {Q : VK} {E : XK} (h : RA K pr fm π F σ r H vs xs) (ha : argsOf r xs = some as) (hn : nodupB (pkOwn r xs) = true) (hf : fn as = some (out, outs)) (hnn : xs.length = n)
    (k : match out with
      | .ex c => ∀ F' H', Ex F F' → R K fm pr π F' σ (backArgs r xs outs r) H' → E (cv c) none H'
      | .val (.fz d) => ∀ v F' H', Ex F F' → RX K fm pr π F' σ (backArgs r xs outs r) H' v (.fz d) → Q v H'
      | .val (.ow d) => ∀ v F' H', Ex F F' → RX K fm pr π F' σ (backArgs r xs outs r) H' v (.fr d) → Q v H') : spOf K cv n fn vs H Q E := by
  obtain ⟨π', k0, eπ, hR', hl, hv⟩ := id h
  have hR : R K fm pr π F σ r H := by
    rcases eπ with rfl | ⟨p, o, rfl, _⟩
    · exact hR'
    · exact hR'.drop rfl
  refine ⟨hl.trans hnn, F, as, out, outs, hR.sub, h.rep ha hn, hf, fun F' H' af => ?_⟩
  have g := h.after ha hn af
  cases out with
  | ex c => exact k F' H' af.ex g
  | val a =>
    cases a with
    | fz d => exact fun v hv => k v F' H' af.ex ⟨g, hv⟩
    | ow d =>
      intro p o h1 h2 h3 h4
      refine k (.ref p) F' H' af.ex ⟨p, o, rfl, g.addPin h3 h2 (hR.znew h1) (fun i d' e1 e2 => ?_) (fun q hq e => ?_), h4, fun q hq e => ?_⟩
      · have hol : outs.length = xs.length := by rw [(args_at ha).1]; exact af.outs.len
        have : ∃ d0, r[i]? = some (.ow d0) := by
          rcases back_cases (i := i) (as := as) hn hol with ⟨z, _⟩ | ⟨k, d0, b, _, z, _⟩
          · exact ⟨d', by rw [← z]; exact e1⟩
          · exact ⟨d0, z⟩
        obtain ⟨d0, z⟩ := this
        obtain ⟨a, u, g1, g2, _⟩ := hR.ow i d0 z
        rw [e2] at g1
        cases g1
        rw [h1] at g2
        cases g2
      · have := (hR.pin q hq).1
        rw [e, h1] at this
        cases this
      · obtain ⟨u, z⟩ := hR.par4 q hq
        rw [e, h1] at z
        cases z
end
end Rk

/-! Rk, part E: operators, built-ins. -/
namespace Rk
open PySem PySem.Spec PyProof.Rows L2
/-- a value d, known to what stands, or an own thing -/
def RF (K : Frag) (F H : Hp) (v : V) (d : D) : Prop := Dp K F v d ∨ ∃ a o, v = .ref a ∧ H a = some o ∧ CRep K F o d
theorem RF.dp {K : Frag} {F H : Hp} {v : V} {d : D} (h : RF K F H v d) (e : Ex F H) (nd : isDict d = false) : Dp K H v d := by
  rcases h with h | ⟨a, o, rfl, h1, h2⟩
  · exact Dp.mono e _ _ h
  · cases h2 with
    | lst h2 => exact .lst (.inl (.inl h1)) (DpAll.mono e _ _ h2)
    | dc _ => cases nd
theorem RF.list {K : Frag} {F H : Hp} {v : V} {ds : List D} (h : RF K F H v (.list ds)) (e : Ex F H) : ∃ a vs, v = .ref a ∧ SqL K H a vs ∧ DpAll K F vs ds := by
  rcases h with h | ⟨a, o, rfl, h1, h2⟩
  · cases h with
    | lst hs ha => exact ⟨_, _, rfl, ex_l e hs, ha⟩
  · obtain ⟨vs, rfl, ha⟩ := h2.list
    exact ⟨a, vs, rfl, .inl (.inl h1), ha⟩
theorem RF.tup {K : Frag} {F H : Hp} {v : V} {ds : List D} (h : RF K F H v (.tuple ds)) (e : Ex F H) : ∃ a vs, v = .ref a ∧ TqT K H a vs ∧ DpAll K F vs ds := by
  rcases h with h | ⟨a, o, rfl, h1, h2⟩
  · cases h with
    | tup hs ha => exact ⟨_, _, rfl, ex_q e hs, ha⟩
  · cases h2
theorem RF.int {K : Frag} {F H : Hp} {v : V} {i : Int} (h : RF K F H v (.int i)) : v = .int i := by
  rcases h with h | ⟨a, o, rfl, h1, h2⟩
  · cases h; rfl
  · cases h2
theorem RF.str {K : Frag} {F H : Hp} {v : V} {i : Str} (h : RF K F H v (.str i)) : v = .str i := by
  rcases h with h | ⟨a, o, rfl, h1, h2⟩
  · cases h; rfl
  · cases h2
theorem RF.bool {K : Frag} {F H : Hp} {v : V} {i : Bool} (h : RF K F H v (.bool i)) : v = .bl i := by
  rcases h with h | ⟨a, o, rfl, h1, h2⟩
  · cases h; rfl
  · cases h2
theorem RF.none {K : Frag} {F H : Hp} {v : V} (h : RF K F H v .none) : v = .non := by
  rcases h with h | ⟨a, o, rfl, h1, h2⟩
  · cases h; rfl
  · cases h2
/-- what a result asks -/
def Res (K : Frag) (F H : Hp) (Q : VK) : RV → Prop
  | .fz d => (∀ v, Dp K F v d → Q v H) ∧ ∀ (p : Addr) (o : Obj) (vs : List V) (ds : List D), o.dict = none → d = .tuple ds → H p = none → DpAll K F vs ds → Q (.ref p) (upd H p (.frz o (.tup vs)))
  | .fr d => ∀ (p : Addr) (o : HO), H p = none → CRep K F o d → Q (.ref p) (upd H p o)
  | .pk _ => False
def rSem (K : Frag) (f : D → D → Option RV) : R2 := fun x y H Q => ∃ F dx dy z, Ex F H ∧ RF K F H x dx ∧ RF K F H y dy ∧ f dx dy = some z ∧ Res K F H Q z
def rSemB (K : Frag) (f : D → D → Option Bool) : R2 := fun x y H Q => ∃ F dx dy z, Ex F H ∧ RF K F H x dx ∧ RF K F H y dy ∧ f dx dy = some z ∧ Q (.bl z) H
theorem lenOk_le {n : Nat} (h : lenOk n = true) : n ≤ sizeLine := Nat.le_trans (of_decide_eq_true h) (by decide)
theorem lenOk_lt {n : Nat} (h : lenOk n = true) : n < sizeLine := Nat.lt_of_le_of_lt (of_decide_eq_true h) (by decide)
theorem mulOk_w {i j : Int} (h : mulOk i j = true) : CMulW i j := by
  have := of_decide_eq_true h
  unfold CMulW
  omega
section
variable {X : Cx}
/-- list + list, any that is read -/
theorem op_catL {pins : List (Addr × Obj)} {s : Shared} {σ : L2.St} {H : Hp} {l b : Addr} {xs zs : List V} {Q : VK} (I : Inv X pins σ H s) (hH : SqL X.K H l xs) (hB : SqL X.K H b zs) (hz : xs.length + zs.length ≤ sizeLine)
    (q : ∀ p, H p = none → Q (.ref p) (upd H p (.lst (xs ++ zs)))) : wpAny (model X.prog X.w) X.A (binaryOp .Add (.ref l) (.ref b)) (EP X pins σ Q) X.xe s := by
  obtain ⟨its, r, ⟨⟨cls, dd, data, sl⟩, n, e, hc, hd, hs⟩, hl⟩ := I.list hH
  obtain ⟨its2, r2, ⟨⟨cls2, dd2, data2, sl2⟩, n2, e2, hc2, hd2, hs2⟩, hl2⟩ := I.list hB
  simp only at hc hd hs hc2 hd2 hs2
  subst hc hd hs hc2 hd2 hs2
  have e1 := r.length
  have e3 := r2.length
  refine concat_meets ⟨_, e, rfl⟩ ⟨_, e2, rfl⟩ noFill_list_add seq_list_add PySem.F.slot_list_add PySem.F.entry_list_add (PySem.F.args_list_add_2 _ _) (list_addW l b its.toArray its2.toArray n n2 none none sl sl2 (by rw [List.size_toArray, List.size_toArray]; omega)) ⟨e, e2, ?_⟩
  have ea : its.toArray ++ its2.toArray = (its ++ its2).toArray := by simp
  rw [ea]
  exact ⟨.ref _, _, I.lnew (t' := s.toks) (r.append r2) (by rw [List.length_append]; omega), rfl, q _ I.fresh⟩
/-- a new tuple, known as it is -/
theorem laid_t {pins : List (Addr × Obj)} {s : Shared} {σ : L2.St} {H : Hp} {xs : List V} {us : List Value} (I : Inv X pins σ H s) (r : Vals xs us) (z : xs.length ≤ sizeLine) :
    Inv X pins σ (upd H s.heap.objs.size (.frz { cls := .type "tuple", data := .seq us.toArray } (.tup xs))) { s with heap := s.heap.push { cls := .type "tuple", data := .seq us.toArray } } :=
  I.laid (t' := s.toks) (fun _ _ e => Heap.get?_push_of_some _ e) (Nat.le_refl _) ⟨Heap.get?_push_size _ rfl, z, us, r, IsTup.new _ _⟩
def tTupF (t : TA) : TE := fun σ H Q => t σ H fun xs H1 => xs.length ≤ sizeLine ∧ ∀ (p : Addr) (o : Obj), o.dict = none → H1 p = none → Q (.ref p) (upd H1 p (.frz o (.tup xs)))
theorem pe_tupF {es : List Expr} {t : TA} {x1 : Nat} {pos : Pos} (h : PA X es t) : PE X (.Tuple es x1 pos) (tTupF t) :=
  ⟨fun pins s σ H Q I hq => wpAny_Tuple_spliced (thn (h.run pos pins s σ H _ I hq) fun us s1 ⟨xs, H1, I1, r, z, q⟩ => ⟨by rw [← r.length]; exact z, ⟨.ref _, _, laid_t I1 r z, rfl, q _ _ rfl (I1.hok.fresh (Nat.le_refl _))⟩⟩)⟩
theorem tupleOf_list {pins : List (Addr × Obj)} {s : Shared} {σ : L2.St} {H : Hp} {a : Addr} {xs : List V} {Q : VK} (I : Inv X pins σ H s) (h : SqL X.K H a xs)
    (q : ∀ (p : Addr) (o : Obj), o.dict = none → H p = none → Q (.ref p) (upd H p (.frz o (.tup xs)))) : wpAny (model X.prog X.w) X.A (call (.type "tuple") [.ref a]) (EP X pins σ Q) X.xe s := by
  obtain ⟨us, r, pl, z⟩ := I.list h
  have e := r.length
  refine call_tuple_list pl.isList (fun h' kp => ?_) (by simp only [List.size_toArray] <;> omega)
  have J : Inv X pins σ H { s with heap := h' } := I.kept (t' := s.toks) kp
  exact ⟨.ref _, _, laid_t J r z, rfl, q _ _ rfl (J.hok.fresh (Nat.le_refl _))⟩
theorem cat_tupF {pins : List (Addr × Obj)} {s : Shared} {σ : L2.St} {H : Hp} {a b : Addr} {xs ys : List V} {Q : VK} (I : Inv X pins σ H s) (ha : SqT X.K H a xs) (hb : SqT X.K H b ys) (hz : xs.length + ys.length ≤ sizeLine)
    (q0 : xs = [] → Q (.ref b) H) (q1 : ys = [] → Q (.ref a) H) (q2 : ∀ (p : Addr) (o : Obj), o.dict = none → H p = none → Q (.ref p) (upd H p (.frz o (.tup (xs ++ ys))))) :
    wpAny (model X.prog X.w) X.A (binaryOp .Add (.ref a) (.ref b)) (EP X pins σ Q) X.xe s := by
  obtain ⟨us, r1, p1, _⟩ := I.tuple ha
  obtain ⟨ws, r2, p2, _⟩ := I.tuple hb
  by_cases hx : xs = []
  · subst hx
    cases r1
    exact cat_tup0 p1 p2 ⟨.ref b, H, I, rfl, q0 rfl⟩
  · refine HT.cat_tup p1 p2 (fun z => hx (r1.nil_iff.mp z)) (fun z => ⟨.ref a, H, I, rfl, q1 (r2.nil_iff.mp z)⟩) (fun _ => ?_) (by rw [← r1.length, ← r2.length]; exact hz)
    exact ⟨.ref _, _, laid_t I (r1.append r2) (by rw [List.length_append]; exact hz), rfl, q2 _ _ rfl (I.hok.fresh (Nat.le_refl _))⟩
theorem sl_tupF : SlR X (fun x lo hi H Q => ∃ a xs, x = .ref a ∧ SqT X.K H a xs ∧ (HT.sIx xs.length 0 lo = 0 ∧ HT.sIx xs.length xs.length hi = xs.length → Q (.ref a) H) ∧
    ∀ (p : Addr) (o : Obj), o.dict = none → H p = none → Q (.ref p) (upd H p (.frz o (.tup (cutV xs lo hi))))) := by
  intro pins s σ H x v vl vu lo hi sl Q I rx hs pl pu ⟨a, xs, ex, hx, q1, q2⟩
  subst ex
  by_cases hw : HT.sIx xs.length 0 lo = 0 ∧ HT.sIx xs.length xs.length hi = xs.length
  · exact sl_tupA pins s σ H _ v vl vu lo hi sl Q I rx hs pl pu ⟨a, xs, rfl, hx, q1, fun z => absurd hw z⟩
  · cases rx
    obtain ⟨us, r, ht, hz⟩ := I.tuple hx
    have en : us.toArray.size = xs.length := by rw [List.size_toArray]; exact r.length.symm
    refine ⟨"tuple", _, PyProof.Rows.slot_tuple_getitem.lookup, ht.typeIs, HT.getItem_tuple_cut ht hs pl pu (by rw [en]; exact hw) ?_ (by rw [en]; exact hz)⟩
    rw [en]
    exact ⟨.ref _, _, laid_t I ((r.drop _).take _) (Nat.le_trans (cutV_length xs lo hi) hz), rfl, q2 _ _ rfl (I.hok.fresh (Nat.le_refl _))⟩
theorem int_to {K : Frag} {F H : Hp} {x y : V} {i j : Int} {g : Int → Int → Int} {C : Int → Int → Prop} {Q : VK} (rx : RF K F H x (.int i)) (ry : RF K F H y (.int j)) (hc : C i j) (q : Res K F H Q (.fz (.int (g i j)))) : rI C (fun i j => .int (g i j)) x y H Q :=
  ⟨i, j, rx.int, ry.int, hc, q.1 _ (.int _)⟩
theorem int_to0 {K : Frag} {F H : Hp} {x y : V} {i j : Int} {g : Int → Int → Int} {Q : VK} (rx : RF K F H x (.int i)) (ry : RF K F H y (.int j)) (q : Res K F H Q (.fz (.int (g i j)))) : rI0 (fun i j => .int (g i j)) x y H Q :=
  ⟨i, j, rx.int, ry.int, q.1 _ (.int _)⟩
theorem some_if {α : Type} {c : Bool} {x z : α} (h : (if c = true then some x else none) = some z) : c = true ∧ x = z := by
  cases c with
  | true => exact ⟨rfl, Option.some.inj (by simpa using h)⟩
  | false => simp at h
theorem ob_add : OpR X (binaryOp .Add) (rSem X.K (binop .add)) := by
  intro pins s σ H x y v u Q I rx ry h
  obtain ⟨F, dx, dy, z, ex, hx, hy, e, q⟩ := h
  cases dx with
  | int i =>
    cases dy with
    | int j => cases e; exact op_add pins s σ H x y v u Q I rx ry (int_to0 hx hy q)
    | _ => cases e
  | str i =>
    cases dy with
    | str j =>
      obtain ⟨hl, rfl⟩ := some_if e
      exact op_add_str pins s σ H x y v u Q I rx ry ⟨i, j, hx.str, hy.str, lenOk_le hl, q.1 _ (.str _)⟩
    | _ => cases e
  | list xs =>
    cases dy with
    | list ys =>
      obtain ⟨hl, rfl⟩ := some_if e
      obtain ⟨a, vs, rfl, h1, h2⟩ := hx.list ex
      obtain ⟨b, ws, rfl, h3, h4⟩ := hy.list ex
      cases rx
      cases ry
      exact op_catL I h1 h3 (by rw [DpAll.length h2, DpAll.length h4]; exact lenOk_le hl) fun p hp => q p _ hp (.lst (DpAll.append h2 h4))
    | _ => cases e
  | tuple xs =>
    cases dy with
    | tuple ys =>
      obtain ⟨hl, rfl⟩ := some_if e
      have hx0 := hx
      have hy0 := hy
      obtain ⟨a, vs, rfl, h1, h2⟩ := hx.tup ex
      obtain ⟨b, ws, rfl, h3, h4⟩ := hy.tup ex
      have nx : vs = [] → xs = [] := fun z => by subst z; cases h2; rfl
      have ny : ws = [] → ys = [] := fun z => by subst z; cases h4; rfl
      cases rx
      cases ry
      refine cat_tupF I h1.sq h3.sq (by rw [DpAll.length h2, DpAll.length h4]; exact lenOk_le hl) (fun z => q.1 _ ?_) (fun z => q.1 _ ?_) fun p o ho hp => q.2 p o _ _ ho rfl hp (DpAll.append h2 h4)
      · rw [nx z]
        rcases hy0 with k | ⟨a', o, e1, _, e2⟩
        · exact k
        · cases e2
      · rw [ny z, List.append_nil]
        rcases hx0 with k | ⟨a', o, e1, _, e2⟩
        · exact k
        · cases e2
    | _ => cases e
  | _ => cases e
theorem ob_sub : OpR X (binaryOp .Sub) (rSem X.K (binop .sub)) := by
  intro pins s σ H x y v u Q I rx ry h
  obtain ⟨F, dx, dy, z, ex, hx, hy, e, q⟩ := h
  cases dx with
  | int i =>
    cases dy with
    | int j => cases e; exact op_sub pins s σ H x y v u Q I rx ry (int_to0 hx hy q)
    | _ => cases e
  | _ => cases e
theorem ob_mul : OpR X (binaryOp .Mult) (rSem X.K (binop .mul)) := by
  intro pins s σ H x y v u Q I rx ry h
  obtain ⟨F, dx, dy, z, ex, hx, hy, e, q⟩ := h
  cases dx with
  | int i =>
    cases dy with
    | int j =>
      obtain ⟨hc, rfl⟩ := some_if e
      exact op_mulW pins s σ H x y v u Q I rx ry (int_to hx hy (mulOk_w hc) q)
    | _ => cases e
  | _ => cases e
theorem op_fdivNW : OpR X (binaryOp .FloorDiv) (rI (fun _ j => j ≠ 0 ∧ j.natAbs.log2 < 9000) fun i j => .int (i.fdiv j)) := opI fun _ _ _ _ _ _ _ hc q => floordiv_int hc.1 q (.inl (PyProof.noPylong_of_log2 hc.2))
theorem ob_mod : OpR X (binaryOp .Mod) (rSem X.K (binop .mod)) := by
  intro pins s σ H x y v u Q I rx ry h
  obtain ⟨F, dx, dy, z, ex, hx, hy, e, q⟩ := h
  cases dx with
  | int i =>
    cases dy with
    | int j =>
      have e : (if decide (0 < j) = true then some (RV.fz (.int (i % j))) else if decide (j ≠ 0) = true then some (RV.fz (.int (i.fmod j))) else none) = some z := e
      by_cases hj : 0 < j
      · rw [if_pos (decide_eq_true hj)] at e
        cases e
        exact op_mod pins s σ H x y v u Q I rx ry (int_to hx hy (C := fun _ j => 0 < j) hj q)
      · rw [if_neg (by rw [decide_eq_true_eq]; exact hj)] at e
        obtain ⟨hc, rfl⟩ := some_if e
        exact op_modN pins s σ H x y v u Q I rx ry (int_to hx hy (C := fun _ j => j ≠ 0) (of_decide_eq_true hc) q)
    | _ => cases e
  | _ => cases e
theorem ob_fdiv : OpR X (binaryOp .FloorDiv) (rSem X.K (binop .fdiv)) := by
  intro pins s σ H x y v u Q I rx ry h
  obtain ⟨F, dx, dy, z, ex, hx, hy, e, q⟩ := h
  cases dx with
  | int i =>
    cases dy with
    | int j =>
      have e : (if divOk j = true then some (RV.fz (.int (i / j))) else if divNOk j = true then some (RV.fz (.int (i.fdiv j))) else none) = some z := e
      cases hj : divOk j with
      | true =>
        rw [hj, if_pos rfl] at e
        cases e
        exact op_fdivW pins s σ H x y v u Q I rx ry (int_to hx hy (C := CDivW) (of_decide_eq_true (p := 0 < j ∧ j.natAbs.log2 < 9000) hj) q)
      | false =>
        rw [hj, if_neg Bool.false_ne_true] at e
        obtain ⟨hc, rfl⟩ := some_if e
        exact op_fdivNW pins s σ H x y v u Q I rx ry (int_to hx hy (C := fun _ j => j ≠ 0 ∧ j.natAbs.log2 < 9000) (of_decide_eq_true (p := j ≠ 0 ∧ j.natAbs.log2 < 9000) hc) q)
    | _ => cases e
  | _ => cases e
theorem ob_pow : OpR X (binaryOp .Pow) (rSem X.K (binop .pow)) := by
  intro pins s σ H x y v u Q I rx ry h
  obtain ⟨F, dx, dy, z, ex, hx, hy, e, q⟩ := h
  cases dx with
  | int i =>
    cases dy with
    | int j =>
      obtain ⟨hc, rfl⟩ := some_if e
      exact op_pow pins s σ H x y v u Q I rx ry (int_to (g := fun i j => i ^ j.toNat) hx hy (C := CPow) (of_decide_eq_true (p := 0 ≤ j ∧ j ≤ 1000000 ∧ i.natAbs < 2 ^ 64) hc) q)
    | _ => cases e
  | _ => cases e
theorem ob_shl : OpR X (binaryOp .LShift) (rSem X.K (binop .shl)) := by
  intro pins s σ H x y v u Q I rx ry h
  obtain ⟨F, dx, dy, z, ex, hx, hy, e, q⟩ := h
  cases dx with
  | int i =>
    cases dy with
    | int j =>
      obtain ⟨hc, rfl⟩ := some_if e
      exact op_shl pins s σ H x y v u Q I rx ry (int_to (g := fun i j => i * 2 ^ j.toNat) hx hy (C := CPow) (of_decide_eq_true (p := 0 ≤ j ∧ j ≤ 1000000 ∧ i.natAbs < 2 ^ 64) hc) q)
    | _ => cases e
  | _ => cases e
theorem ob_shr : OpR X (binaryOp .RShift) (rSem X.K (binop .shr)) := by
  intro pins s σ H x y v u Q I rx ry h
  obtain ⟨F, dx, dy, z, ex, hx, hy, e, q⟩ := h
  cases dx with
  | int i =>
    cases dy with
    | int j =>
      obtain ⟨hc, rfl⟩ := some_if e
      exact op_shr pins s σ H x y v u Q I rx ry (int_to (g := fun i j => i / 2 ^ j.toNat) hx hy (C := fun _ j => 0 ≤ j) (of_decide_eq_true hc) q)
    | _ => cases e
  | _ => cases e
theorem ob_and : OpR X (binaryOp .BitAnd) (rSem X.K (binop .and)) := by
  intro pins s σ H x y v u Q I rx ry h
  obtain ⟨F, dx, dy, z, ex, hx, hy, e, q⟩ := h
  cases dx with
  | int i =>
    cases dy with
    | int j => cases e; exact op_and pins s σ H x y v u Q I rx ry (int_to0 (g := Builtin.bitAnd) hx hy q)
    | _ => cases e
  | _ => cases e
theorem ob_xor : OpR X (binaryOp .BitXor) (rSem X.K (binop .xor)) := by
  intro pins s σ H x y v u Q I rx ry h
  obtain ⟨F, dx, dy, z, ex, hx, hy, e, q⟩ := h
  cases dx with
  | int i =>
    cases dy with
    | int j => cases e; exact op_xor pins s σ H x y v u Q I rx ry (int_to0 (g := Builtin.bitXor) hx hy q)
    | _ => cases e
  | _ => cases e
def opOf : BOp → Operator
  | .add => .Add | .sub => .Sub | .mul => .Mult | .mod => .Mod | .fdiv => .FloorDiv | .pow => .Pow | .shl => .LShift | .shr => .RShift | .and => .BitAnd | .xor => .BitXor
theorem ob_all (op : BOp) : OpR X (binaryOp (opOf op)) (rSem X.K (binop op)) := by
  cases op
  · exact ob_add
  · exact ob_sub
  · exact ob_mul
  · exact ob_mod
  · exact ob_fdiv
  · exact ob_pow
  · exact ob_shl
  · exact ob_shr
  · exact ob_and
  · exact ob_xor
end
end Rk

/-! Rk, part Dc: dicts. -/
namespace Rk
open PySem PySem.Spec PyProof.Rows L2
/-! ### one list of pairs beside another -/
theorem find_rel {κ β : Type} [DecidableEq κ] {G : β → D → Prop} {k : κ} {dk : D} : ∀ {vs : List (κ × β)} {ds : List (D × D)}, Paired (fun q d => PyData.eqv d.1 dk = decide (q.1 = k) ∧ G q.2 d.2) vs ds →
    (((vs.find? fun kv => decide (kv.1 = k)).map (·.2) = none ∧ dFind ds dk = none) ∨ ∃ b d, (vs.find? fun kv => decide (kv.1 = k)).map (·.2) = some b ∧ dFind ds dk = some d ∧ G b d)
  | _, _, .nil => .inl ⟨rfl, rfl⟩
  | q :: vs, d :: ds, .cons h t => by
    unfold dFind
    rw [List.find?_cons, List.find?_cons, h.1]
    by_cases e : q.1 = k
    · rw [decide_eq_true e]
      exact .inr ⟨q.2, d.2, rfl, rfl, h.2⟩
    · rw [decide_eq_false e]
      exact find_rel t
theorem put_rel {κ β : Type} [DecidableEq κ] {P : κ × β → D × D → Prop} {k : κ} {dk d : D} (f : κ × β → κ × β) (hf1 : ∀ q, q.1 = k → ∀ e, P q e → P (f q) (e.1, d)) (hf2 : ∀ q, ¬ q.1 = k → f q = q) :
    ∀ {vs : List (κ × β)} {ds : List (D × D)}, Paired P vs ds → (∀ q e, P q e → PyData.eqv e.1 dk = decide (q.1 = k)) → Paired P (vs.map f) (ds.map fun p => if PyData.eqv p.1 dk then (p.1, d) else p)
  | _, _, .nil, _ => .nil
  | q :: vs, e :: ds, .cons h t, he => by
    rw [List.map_cons, List.map_cons]
    refine .cons ?_ (put_rel f hf1 hf2 t he)
    by_cases z : q.1 = k
    · rw [he q e h, decide_eq_true z, if_pos rfl]
      exact hf1 q z e h
    · rw [he q e h, decide_eq_false z, if_neg Bool.false_ne_true, hf2 q z]
      exact h
theorem eqv_ints : ∀ xs ys : List Int, PyData.eqvAll (xs.map .int) (ys.map .int) = decide (xs = ys)
  | [], [] => by simp [PyData.eqvAll]
  | [], _ :: _ => by simp [PyData.eqvAll]
  | _ :: _, [] => by simp [PyData.eqvAll]
  | x :: xs, y :: ys => by
    show PyData.eqvAll (.int x :: xs.map .int) (.int y :: ys.map .int) = _
    rw [PyData.eqvAll, eqv_ints xs ys]
    by_cases h : x = y
    · subst h
      simp [PyData.eqv]
    · simp [PyData.eqv, h]
theorem eqv_tups (xs ys : List Int) : PyData.eqv (.tuple (xs.map .int)) (.tuple (ys.map .int)) = decide (xs = ys) := by
  rw [PyData.eqv]
  exact eqv_ints xs ys
theorem eqv_int2 (x y : Int) : PyData.eqv (.int x) (.int y) = decide (x = y) := by
  by_cases h : x = y <;> simp [PyData.eqv, h]
theorem intsD_of : ∀ {xs : List D} {ns : List Int}, intsD xs = some ns → xs = ns.map .int
  | [], _, h => by cases h; rfl
  | x :: xs, ns, h => by
    cases x with
    | int i =>
      obtain ⟨ms, e, rfl⟩ := Option.map_eq_some_iff.mp (show (intsD xs).map (i :: ·) = some ns from h)
      rw [intsD_of e]
      rfl
    | _ => cases h
section
variable {X : Cx} {pins : List (Addr × Obj)} {s : Shared} {σ : L2.St} {H F : Hp}
theorem dO_at {p a : Addr} {ob : Obj} (I : Inv X pins σ H s) (h : H p = some (dO a ob)) : p = a ∧ s.heap.get? p = some ob := by
  obtain ⟨h1, _, h3⟩ := (show ObjOk X.prog X.w H s.heap p (dO a ob) from I.hok p _ h)
  have e : p = a := by
    refine Classical.byContradiction fun ne => ?_
    obtain ⟨G, g1, g2⟩ := restrict s.heap fun b => decide (b ≠ a)
    have z : G.get? a = some ob := h3 s.heap G h1 fun o ho => by
      rw [g1 p (decide_eq_true ne)]
      exact ho
    rw [g2 a (decide_eq_false fun q => q rfl)] at z
    cases z
  exact ⟨e, by rw [e]; exact h1⟩
theorem rf_dict {v : V} {ds : List (D × D)} (I : Inv X pins σ H s) (h : RF X.K F H v (.dict ds)) : ∃ a ob, v = .ref a ∧ H a = some (dO a ob) ∧ DRep X.K F a ob ds ∧ s.heap.get? a = some ob := by
  rcases h with h | ⟨p, o, rfl, h1, h2⟩
  · cases h
  · cases h2 with
    | dc h2 =>
      obtain ⟨e, h3⟩ := dO_at I h1
      subst e
      exact ⟨_, _, rfl, h1, h2, h3⟩
theorem krep_at {a : Addr} {ob : Obj} {es : Array DictEntry} {ep : Nat} {ds : List (D × D)} (hg : s.heap.get? a = some ob) (hx : ob.ExactDict) (hd : ob.data = .dict es ep) (h : KRep X.K F es ds) :
    ∃ vs : List (Int × Value), s.heap.DictOf (intKind X.prog X.w) a vs ∧ Paired (fun (q : Int × Value) (d : D × D) => d.1 = .int q.1 ∧ ∃ v, RelV v q.2 ∧ Dp X.K F v d.2) vs ds := by
  obtain ⟨P, w, vs, h1, h2, h3, h4⟩ := h
  have h2' : ∀ {l : List DictEntry} {m : List (Int × Value)}, PySem.Pairs (intKind P w) l m → PySem.Pairs (intKind X.prog X.w) l m := by
    intro l m z
    induction z with
    | nil => exact .nil
    | cons a b _ ih => exact .cons a b ih
  exact ⟨vs, ⟨ob, es, ep, hg, hx, hd, h1, h2' h2, h3⟩, h4⟩
theorem trep_at {a : Addr} {ob : Obj} {es : Array DictEntry} {ep : Nat} {ds : List (D × D)} (I : Inv X pins σ H s) (ex : Ex F H) (hg : s.heap.get? a = some ob) (hx : ob.ExactDict) (hd : ob.data = .dict es ep) (h : TRep X.K F es ds) :
    ∃ ds', ds = (.none, .none) :: ds' ∧ ∃ xs : List (List Int × Addr × Value), s.heap.DictOfH (tupleKind (intKind X.prog X.w)) a xs ∧ Paired (fun (q : List Int × Addr × Value) (d : D × D) => d.1 = .tuple (q.1.map .int) ∧ TqT X.K F q.2.1 (q.1.map V.int) ∧ ∃ v, RelV v q.2.2 ∧ Dp X.K F v d.2) xs ds' := by
  obtain ⟨ds', h0, P, w, xs, h1, h2, h3⟩ := h
  have all : ∀ {l : List (List Int × Addr × Value)} {m : List (D × D)}, Paired (fun (q : List Int × Addr × Value) (d : D × D) => d.1 = .tuple (q.1.map .int) ∧ TqT X.K F q.2.1 (q.1.map V.int) ∧ ∃ v, RelV v q.2.2 ∧ Dp X.K F v d.2) l m → ∀ x ∈ l, (tupleKind (intKind X.prog X.w)).is s.heap x.1 x.2.1 := by
    intro l m z
    induction z with
    | nil => intro x hx; exact nomatch hx
    | @cons p q ps qs hq t ih =>
      intro x hx
      rcases List.mem_cons.mp hx with e | hx
      · subst e
        exact I.isT (ex_q ex hq.2.1).sq
      · exact ih x hx
  exact ⟨ds', h0, xs, ⟨ob, es, ep, hg, hx, hd, h1, all h3, h2⟩, h3⟩
theorem krep_isT {es : Array DictEntry} {ds : List (D × D)} {K : Frag} (h : KRep K F es ds) : isT ds = false := by
  obtain ⟨P, w, vs, h1, h2, h3, h4⟩ := h
  cases h4 with
  | nil => rfl
  | @cons q d vs ds hq t =>
    obtain ⟨d1, d2⟩ := d
    cases (show d1 = .int q.1 from hq.1)
    rfl
theorem trep_isT {es : Array DictEntry} {ds : List (D × D)} {K : Frag} (h : TRep K F es ds) : isT ds = true := by
  obtain ⟨ds', rfl, _⟩ := h
  rfl
theorem dFind_sent (ds : List (D × D)) (ks : List D) : dFind ((.none, .none) :: ds) (.tuple ks) = dFind ds (.tuple ks) := by
  unfold dFind
  rw [List.find?_cons]
  simp [PyData.eqv]
/-- a key that is asked: an int, or a tuple of ints -/
inductive KeyAt (X : Cx) (s : Shared) (H : Hp) : V → D → Prop
  | int (i : Int) : KeyAt X s H (.int i) (.int i)
  | tup {b : Addr} {ks : List Int} : (tupleKind (intKind X.prog X.w)).is s.heap ks b → TqT X.K H b (ks.map V.int) → KeyAt X s H (.ref b) (.tuple (ks.map .int))
theorem keyAt_of {y : V} {dk : D} {ds : List (D × D)} (I : Inv X pins σ H s) (ex : Ex F H) (h : RF X.K F H y dk) (hf : keyFit ds dk = true) : KeyAt X s H y dk := by
  cases dk with
  | int i =>
    rw [h.int]
    exact .int i
  | tuple xs =>
    unfold keyFit at hf
    rw [Bool.and_eq_true] at hf
    cases e : intsD xs with
    | none => rw [e] at hf; cases hf.2
    | some ns =>
      obtain ⟨b, vs, rfl, h1, h2⟩ := h.tup ex
      obtain ⟨rfl, rfl⟩ := DpAll.ints h2 e
      exact .tup (I.isT h1.sq) h1
  | _ => cases hf
/-- what the dict holds at a key -/
theorem dict_get {a : Addr} {ob : Obj} {ds : List (D × D)} {y : V} {dk : D} (I : Inv X pins σ H s) (ex : Ex F H) (hr : DRep X.K F a ob ds) (hg : s.heap.get? a = some ob) (hk : KeyAt X s H y dk) (hf : keyFit ds dk = true) :
    (∃ i, y = .int i ∧ dk = .int i ∧ ∃ vs : List (Int × Value), s.heap.DictOf (intKind X.prog X.w) a vs ∧ ((valueAt vs i = none ∧ dFind ds dk = none) ∨ ∃ b d v, valueAt vs i = some b ∧ dFind ds dk = some d ∧ RelV v b ∧ Dp X.K F v d)) ∨
    ∃ (b : Addr) (ks : List Int), y = .ref b ∧ dk = .tuple (ks.map .int) ∧ (tupleKind (intKind X.prog X.w)).is s.heap ks b ∧ ∃ xs : List (List Int × Addr × Value), s.heap.DictOfH (tupleKind (intKind X.prog X.w)) a xs ∧
      ((atKey xs ks = none ∧ dFind ds dk = none) ∨ ∃ p d v, atKey xs ks = some p ∧ dFind ds dk = some d ∧ RelV v p.2 ∧ Dp X.K F v d) := by
  obtain ⟨_, hx, _, es, ep, hd, hr⟩ := hr
  cases hk with
  | int i =>
    rcases hr with hr | hr
    · obtain ⟨vs, h1, h2⟩ := krep_at (X := X) hg hx hd hr
      refine .inl ⟨i, rfl, rfl, vs, h1, ?_⟩
      rcases find_rel (G := fun b d => ∃ v, RelV v b ∧ Dp X.K F v d) (k := i) (dk := .int i) (Paired.mapP h2 fun q d z => ⟨by rw [z.1, eqv_int2], z.2⟩) with z | ⟨b, d, z1, z2, v, z3, z4⟩
      · exact .inl z
      · exact .inr ⟨b, d, v, z1, z2, z3, z4⟩
    · unfold keyFit at hf
      rw [trep_isT hr] at hf
      cases hf
  | @tup b ks hi hq =>
    rcases hr with hr | hr
    · unfold keyFit at hf
      rw [krep_isT hr] at hf
      cases hf
    · obtain ⟨ds', rfl, xs, h1, h2⟩ := trep_at I ex hg hx hd hr
      refine .inr ⟨b, ks, rfl, rfl, hi, xs, h1, ?_⟩
      rw [dFind_sent]
      rcases find_rel (G := fun (b : Addr × Value) d => ∃ v, RelV v b.2 ∧ Dp X.K F v d) (k := ks) (dk := .tuple (ks.map .int)) (Paired.mapP h2 fun q d z => ⟨by rw [z.1, eqv_tups], z.2.2⟩) with z | ⟨p, d, z1, z2, v, z3, z4⟩
      · exact .inl z
      · exact .inr ⟨p, d, v, z1, z2, z3, z4⟩
theorem int_is {P : Program} {w : World} (i : Int) (t : Tok) : (PySem.intKind P w).is i (.int i t) = true := by simp [PySem.intKind, Value.isInt]
theorem room_t (hu : X.A.units + 64 < cLine) : (tupleKind (intKind X.prog X.w)).room X.A.in1 := by
  show X.A.units + 1 < cLine
  omega
/-- d[k] -/
theorem dict_item {v y : V} {u w : Value} {ds : List (D × D)} {dk d : D} {Q : VK} (hu : X.A.units + 64 < cLine) (I : Inv X pins σ H s) (ex : Ex F H) (rv : RelV v u) (ry : RelV y w) (hv : RF X.K F H v (.dict ds)) (hy : RF X.K F H y dk) (hf : keyFit ds dk = true) (he : dFind ds dk = some d)
    (q : ∀ v, Dp X.K F v d → Q v H) : s.TypeIs u "dict" ∧ ∃ x, wpAny (model X.prog X.w) X.A (getItem u w) (fun r s' => r = x ∧ EP X pins σ Q r s') X.xe s := by
  obtain ⟨a, ob, rfl, h1, h2, h3⟩ := rf_dict I hv
  cases rv
  have hT : s.TypeIs (.ref a) "dict" := ⟨ob, h3, h2.2.1.1⟩
  refine ⟨hT, ?_⟩
  rcases dict_get I ex h2 h3 (keyAt_of I ex hy hf) hf with ⟨i, rfl, rfl, vs, g1, g2⟩ | ⟨b, ks, rfl, rfl, hi, xs, g1, g2⟩
  · obtain ⟨t, rfl⟩ := ry
    rcases g2 with ⟨_, g2⟩ | ⟨b, d', v, g2, g3, g4, g5⟩
    · rw [he] at g2; cases g2
    · rw [he] at g3
      cases g3
      exact ⟨b, wpAny_getItem_of (knd := intKind X.prog X.w) (k := i) (int_is i _) g1.mapOf g2 ⟨rfl, v, H, I.tok _, g4, q v g5⟩⟩
  · cases ry
    rcases g2 with ⟨_, g2⟩ | ⟨p, d', v, g2, g3, g4, g5⟩
    · rw [he] at g2; cases g2
    · rw [he] at g3
      cases g3
      exact ⟨p.2, wpAny_getItem_heap (room_t hu) hi g1 g2 ⟨rfl, v, H, I.tok _, g4, q v g5⟩⟩
/-- k in d -/
theorem dict_in {v y : V} {u w : Value} {ds : List (D × D)} {dk : D} {Q : VK} (hu : X.A.units + 64 < cLine) (I : Inv X pins σ H s) (ex : Ex F H) (rv : RelV v u) (ry : RelV y w) (hv : RF X.K F H v (.dict ds)) (hy : RF X.K F H y dk) (hf : keyFit ds dk = true)
    (q : Q (.bl (dFind ds dk).isSome) H) : wpAny (model X.prog X.w) X.A (compareOp .In w u) (EP X pins σ Q) X.xe s := by
  obtain ⟨a, ob, rfl, h1, h2, h3⟩ := rf_dict I hv
  cases rv
  rcases dict_get I ex h2 h3 (keyAt_of I ex hy hf) hf with ⟨i, rfl, rfl, vs, g1, g2⟩ | ⟨b, ks, rfl, rfl, hi, xs, g1, g2⟩
  · obtain ⟨t, rfl⟩ := ry
    refine wpAny_in_of (knd := intKind X.prog X.w) (k := i) (int_is i _) h2.1 g1.mapOf ⟨.bl _, H, I.tok _, rfl, ?_⟩
    rcases g2 with ⟨z, g2⟩ | ⟨b, d', v, z, g3, g4, g5⟩
    · rw [g2] at q; rw [z]; exact q
    · rw [g3] at q; rw [z]; exact q
  · cases ry
    refine wpAny_in_heap (room_t hu) hi h2.1 g1 ⟨.bl _, H, I.tok _, rfl, ?_⟩
    rcases g2 with ⟨z, g2⟩ | ⟨b, d', v, z, g3, g4, g5⟩
    · rw [g2] at q; rw [z]; exact q
    · rw [g3] at q; rw [z]; exact q
theorem dict_notIn {v y : V} {u w : Value} {ds : List (D × D)} {dk : D} {Q : VK} (hu : X.A.units + 64 < cLine) (I : Inv X pins σ H s) (ex : Ex F H) (rv : RelV v u) (ry : RelV y w) (hv : RF X.K F H v (.dict ds)) (hy : RF X.K F H y dk) (hf : keyFit ds dk = true)
    (q : Q (.bl (!(dFind ds dk).isSome)) H) : wpAny (model X.prog X.w) X.A (compareOp .NotIn w u) (EP X pins σ Q) X.xe s := by
  obtain ⟨a, ob, rfl, h1, h2, h3⟩ := rf_dict I hv
  cases rv
  rcases dict_get I ex h2 h3 (keyAt_of I ex hy hf) hf with ⟨i, rfl, rfl, vs, g1, g2⟩ | ⟨b, ks, rfl, rfl, hi, xs, g1, g2⟩
  · obtain ⟨t, rfl⟩ := ry
    refine wpAny_notIn_of (knd := intKind X.prog X.w) (k := i) (int_is i _) h2.1 g1.mapOf ⟨.bl _, H, I.tok _, rfl, ?_⟩
    rcases g2 with ⟨z, g2⟩ | ⟨b, d', v, z, g3, g4, g5⟩
    · rw [g2] at q; rw [z]; exact q
    · rw [g3] at q; rw [z]; exact q
  · cases ry
    refine wpAny_notIn_heap (room_t hu) hi h2.1 g1 ⟨.bl _, H, I.tok _, rfl, ?_⟩
    rcases g2 with ⟨z, g2⟩ | ⟨b, d', v, z, g3, g4, g5⟩
    · rw [g2] at q; rw [z]; exact q
    · rw [g3] at q; rw [z]; exact q
/-- d.get(k, x) -/
theorem dict_getD {v y x : V} {u w t : Value} {ds : List (D × D)} {dk dx : D} {Q : VK} (hu : X.A.units + 64 < cLine) (I : Inv X pins σ H s) (ex : Ex F H) (rv : RelV v u) (ry : RelV y w) (rx : RelV x t) (hv : RF X.K F H v (.dict ds)) (hy : RF X.K F H y dk) (hx : Dp X.K F x dx) (hf : keyFit ds dk = true)
    (q : ∀ v, Dp X.K F v ((dFind ds dk).getD dx) → Q v H) : wpAny (model X.prog X.w) X.A (call (.builtin "dict.get") [u, w, t]) (EP X pins σ Q) X.xe s := by
  obtain ⟨a, ob, rfl, h1, h2, h3⟩ := rf_dict I hv
  cases rv
  rcases dict_get I ex h2 h3 (keyAt_of I ex hy hf) hf with ⟨i, rfl, rfl, vs, g1, g2⟩ | ⟨b, ks, rfl, rfl, hi, xs, g1, g2⟩
  · obtain ⟨tt, rfl⟩ := ry
    refine call_meetsIn PySem.F.slot_dict_get g1.mapOf.typeIs PySem.F.entry_dict_get (PySem.F.args_dict_get_3 _ _ _) (meets_dict_get_default (PySem.intKind X.prog X.w) a (k := i) (int_is i _) h2.1 t) ⟨_, g1.mapOf, ?_⟩
    rcases g2 with ⟨z, g2⟩ | ⟨b, d', v, z, g3, g4, g5⟩
    · rw [g2] at q; rw [z]; exact ⟨x, H, I.tok _, rx, q x hx⟩
    · rw [g3] at q; rw [z]; exact ⟨v, H, I.tok _, g4, q v g5⟩
  · cases ry
    refine call_meetsIn PySem.F.slot_dict_get g1.typeIs PySem.F.entry_dict_get (PySem.F.args_dict_get_3 _ _ _) (meetsH_dict_get_default (tupleKind (intKind X.prog X.w)) a b h2.1 t) ⟨room_t hu, ks, xs, hi, g1, ?_⟩
    rcases g2 with ⟨z, g2⟩ | ⟨p, d', v, z, g3, g4, g5⟩
    · rw [g2] at q; rw [z]; exact ⟨x, H, I.tok _, rx, q x hx⟩
    · rw [g3] at q; rw [z]; exact ⟨v, H, I.tok _, g4, q v g5⟩
/-- the entries of the dict -/
theorem drep_ents {a : Addr} {ob : Obj} {ds : List (D × D)} {K : Frag} (h : DRep K F a ob ds) : ∃ es ep, ob.data = .dict es ep ∧ Paired (fun (en : DictEntry) (d : D × D) => ∃ x, RelV x en.key ∧ Dp K F x d.1) es.toList (dBody ds) := by
  obtain ⟨_, _, _, es, ep, hd, hr⟩ := h
  refine ⟨es, ep, hd, ?_⟩
  rcases hr with hr | hr
  · have hb : dBody ds = ds := by
      have := krep_isT hr
      unfold dBody
      split
      · cases this
      · rfl
    rw [hb]
    obtain ⟨P, w, vs, h1, h2, h3, h4⟩ := hr
    have go : ∀ {l : List DictEntry} {vs : List (Int × Value)} {ds : List (D × D)}, PySem.Pairs (PySem.intKind P w) l vs → Paired (fun (q : Int × Value) (d : D × D) => d.1 = .int q.1 ∧ ∃ v, RelV v q.2 ∧ Dp K F v d.2) vs ds → Paired (fun (en : DictEntry) (d : D × D) => ∃ x, RelV x en.key ∧ Dp K F x d.1) l ds := by
      intro l vs ds z
      induction z generalizing ds with
      | nil => intro q; cases q; exact .nil
      | @cons en kv es kvs a b _ ih =>
        intro q
        cases q with
        | cons q1 q2 =>
          obtain ⟨t, e⟩ := Value.isInt_shape (show Value.isInt kv.1 en.key = true from a)
          exact .cons ⟨.int kv.1, ⟨t, e⟩, by rw [q1.1]; exact .int _⟩ (ih q2)
    exact go h2 h4
  · obtain ⟨ds', rfl, P, w, xs, h1, h2, h3⟩ := hr
    show Paired _ es.toList ds'
    rw [h1]
    have go : ∀ {xs : List (List Int × Addr × Value)} {ds : List (D × D)}, Paired (fun (q : List Int × Addr × Value) (d : D × D) => d.1 = .tuple (q.1.map .int) ∧ TqT K F q.2.1 (q.1.map V.int) ∧ ∃ v, RelV v q.2.2 ∧ Dp K F v d.2) xs ds → Paired (fun (en : DictEntry) (d : D × D) => ∃ x, RelV x en.key ∧ Dp K F x d.1) (xs.map (entryOfKey (tupleKind (PySem.intKind P w)))) ds := by
      intro xs ds z
      induction z with
      | nil => exact .nil
      | @cons q d qs ds hq t ih => exact .cons ⟨.ref q.2.1, rfl, by rw [hq.1]; exact .tup hq.2.1 (DpAll.ofInts _)⟩ ih
    exact go h3
theorem dBody_len (ds : List (D × D)) : (dBody ds).length ≤ ds.length := by
  unfold dBody
  split
  · exact Nat.le_succ _
  · exact Nat.le_refl _
/-- a dict's object, new or changed -/
theorem dO_ok {P : Program} {w : World} {H' : Hp} {h' : Heap} {a : Addr} {ob : Obj} (h : h'.get? a = some ob) : ObjOk P w H' h' a (dO a ob) := ⟨h, ⟨ob, h⟩, fun _ _ z k => k _ z⟩
theorem dFind_any (ds : List (D × D)) (k : D) : (dFind ds k).isSome = ds.any fun p => PyData.eqv p.1 k := by
  unfold dFind
  rw [Option.isSome_map]
  induction ds with
  | nil => rfl
  | cons d ds ih =>
    rw [List.find?_cons, List.any_cons]
    cases PyData.eqv d.1 k with
    | true => rfl
    | false => rw [Bool.false_or]; exact ih
theorem dPut_len (ds : List (D × D)) (k v : D) : (dPut ds k v).length ≤ ds.length + 1 := by
  unfold dPut
  split
  · rw [List.length_map]; exact Nat.le_succ _
  · rw [List.length_append]; exact Nat.le_refl _
/-- d[k] = v -/
theorem dict_set {a : Addr} {ob : Obj} {vx y x : V} {w t : Value} {ds : List (D × D)} {dk d : D} {Q : Unit → Shared → Prop} {E : Value → Shared → Prop} (hu : X.A.units + 64 < cLine) (I : Inv X pins σ H s) (ex : Ex F H) (ha : H a = some (dO a ob)) (hr : DRep X.K F a ob ds) (ry : RelV y w) (rx : RelV x t) (hy : Dp X.K F y dk) (hx : Dp X.K F x d) (hf : keyFit ds dk = true) (hl : lenOk ds.length = true)
    (q : ∀ ob' s', DRep X.K F a ob' (dPut ds dk d) → Inv X pins σ (upd H a (dO a ob')) s' → Q () s') : wpAny (model X.prog X.w) X.A (setItem (.ref a) w t) Q E s := by
  have hg := (dO_at I ha).2
  obtain ⟨hsys, hxd, _, es, ep, hd, hrr⟩ := hr
  have hlen : ds.length ≤ 100000 := of_decide_eq_true hl
  have hpl := dPut_len ds dk d
  have big : ∀ {n : Nat}, n ≤ 100002 → n ≤ sizeLine := fun h => Nat.le_trans h (by decide)
  have wr : ∀ {h' : Heap} {tk : Nat} {ob' : Obj}, Heap.SameBut a s.heap h' → h'.get? a = some ob' → Inv X pins σ (upd H a (dO a ob')) { s with heap := h', toks := tk } := fun {h' tk ob'} sb e =>
    I.write (x := a) (e := a) (by rw [ha]; trivial) (.inl rfl) (fun b q hb z => (sb.2 b hb).trans z) ⟨_, e⟩ (dO_ok e)
  rcases hrr with hrr | hrr
  · have hT := krep_isT hrr
    obtain ⟨vs, h1, h2⟩ := krep_at (X := X) hg hxd hd hrr
    cases dk with
    | int i =>
      cases hy
      obtain ⟨tt, rfl⟩ := ry
      have hvl : vs.length = ds.length := Paired.length h2
      refine wpAny_setItem_pairs (hsz := big (by omega)) (knd := PySem.intKind X.prog X.w) (k := i) (int_is i _) h1 fun h' dd' sb => ?_
      obtain ⟨ob', es', ep', g1, g2, g3, g4, g5, g6⟩ := dd'
      refine q ob' _ ⟨hsys, g2, by omega, es', ep', g3, .inl ⟨X.prog, X.w, _, g4, g5, g6, ?_⟩⟩ (wr sb g1)
      have hany : (vs.any fun kv => decide (kv.1 = i)) = (dFind ds (.int i)).isSome := by
        rw [dFind_any]
        have go : ∀ {vs : List (Int × Value)} {ds : List (D × D)}, Paired (fun (q : Int × Value) (d : D × D) => d.1 = .int q.1 ∧ ∃ v, RelV v q.2 ∧ Dp X.K F v d.2) vs ds → (vs.any fun kv => decide (kv.1 = i)) = ds.any fun p => PyData.eqv p.1 (.int i) := by
          intro vs ds z
          induction z with
          | nil => rfl
          | cons h t ih => rw [List.any_cons, List.any_cons, ih, h.1, eqv_int2]
        exact go h2
      unfold stored dPut
      rw [hany]
      by_cases c : (dFind ds (.int i)).isSome = true
      · rw [if_pos c, if_pos c]
        exact put_rel (k := i) (fun kv => if kv.1 = i then (kv.1, t) else kv) (fun q hq e he => by
          rw [if_pos hq]
          exact ⟨he.1, x, rx, hx⟩) (fun q hq => if_neg hq) h2 fun q e he => by rw [he.1, eqv_int2]
      · rw [if_neg c, if_neg c]
        exact Paired.snoc h2 ⟨rfl, x, rx, hx⟩
    | tuple xs =>
      unfold keyFit at hf
      rw [hT] at hf
      cases hf
    | _ => cases hf
  · have hT := trep_isT hrr
    obtain ⟨ds', rfl, xs, h1, h2⟩ := trep_at I ex hg hxd hd hrr
    cases dk with
    | int i =>
      unfold keyFit at hf
      rw [hT] at hf
      cases hf
    | tuple ks =>
      unfold keyFit at hf
      rw [Bool.and_eq_true] at hf
      cases hk : intsD ks with
      | none => rw [hk] at hf; cases hf.2
      | some ns =>
        cases hy with
        | @tup b vs0 _ hs hda =>
          obtain ⟨rfl, rfl⟩ := DpAll.ints hda hk
          cases ry
          have hxl : xs.length = ds'.length := Paired.length h2
          simp only [List.length_cons] at hlen hpl
          refine wpAny_setItem_heap (hsz := big (by omega)) (room_t hu) (I.isT (ex_q ex hs).sq) h1 fun h' dd' sb => ?_
          obtain ⟨ob', es', ep', g1, g2, g3, g4, _, g6⟩ := dd'
          have hput : dPut ((.none, .none) :: ds') (.tuple (ns.map .int)) d = (.none, .none) :: dPut ds' (.tuple (ns.map .int)) d := by
            unfold dPut
            rw [dFind_sent]
            by_cases c : (dFind ds' (.tuple (ns.map .int))).isSome = true
            · rw [if_pos c, if_pos c, List.map_cons]
              congr 1
            · rw [if_neg c, if_neg c]
              rfl
          have hlen2 : (dPut ((.none, .none) :: ds') (.tuple (ns.map .int)) d).length ≤ 100002 := by omega
          refine q ob' _ ⟨hsys, g2, hlen2, es', ep', g3, .inr ⟨_, hput, X.prog, X.w, _, g4, g6, ?_⟩⟩ (wr sb g1)
          have hany : (atKey xs ns).isSome = (dFind ds' (.tuple (ns.map .int))).isSome := by
            have hfr := find_rel (G := fun (b : Addr × Value) d => ∃ v, RelV v b.2 ∧ Dp X.K F v d) (k := ns) (dk := .tuple (ns.map .int)) (Paired.mapP h2 fun q d z => ⟨by rw [z.1, eqv_tups], z.2.2⟩)
            unfold atKey
            rcases hfr with ⟨z1, z2⟩ | ⟨p, d', z1, z2, _⟩
            · rw [z1, z2]; rfl
            · rw [z1, z2]; rfl
          unfold storedH dPut
          rw [hany]
          by_cases c : (dFind ds' (.tuple (ns.map .int))).isSome = true
          · rw [if_pos c, if_pos c]
            exact put_rel (k := ns) (putAt ns t) (fun q hq e he => by
              unfold putAt
              rw [if_pos hq]
              exact ⟨he.1, he.2.1, x, rx, hx⟩) (fun q hq => by
              unfold putAt
              rw [if_neg hq]) h2 fun q e he => by rw [he.1, eqv_tups]
          · rw [if_neg c, if_neg c]
            exact Paired.snoc h2 ⟨rfl, hs, x, rx, hx⟩
    | _ => cases hf
/-- {} -/
def tDNewB (K : Frag) (t : Bool) : TE := fun _ H Q => ∀ p ob, H p = none → (∀ F, CRep K F (dO p ob) (.dict (if t then [(.none, .none)] else []))) → Q (.ref p) (upd H p (dO p ob))
theorem pe_dnewB {t : Bool} {pos : Pos} : PE X (.Dict [] [] pos) (tDNewB X.K t) := ⟨fun pins s σ H Q I h =>
  wpAny_Dict_empty ⟨.ref s.heap.objs.size, _, I.laid (a := s.heap.objs.size) (o := dO s.heap.objs.size { cls := .type "dict", data := .dict #[] }) (t' := s.toks) (fun _ _ q => Heap.get?_push_of_some _ q) (Nat.le_refl _) (dO_ok (Heap.get?_push_size _ rfl)), rfl, h _ _ (I.hok.fresh (Nat.le_refl _)) fun F => by
    have hs : (s.heap.objs.size == sysModules) = false := beq_eq_false_iff_ne.mpr (Ne.symm (Nat.ne_of_lt I.big))
    cases t with
    | false => exact .dc ⟨hs, ⟨rfl, rfl, rfl⟩, Nat.zero_le _, #[], 0, rfl, .inl ⟨X.prog, X.w, [], fun e he => absurd he (by simp), .nil, List.nodup_nil, .nil⟩⟩
    | true => exact .dc ⟨hs, ⟨rfl, rfl, rfl⟩, by simp, #[], 0, rfl, .inr ⟨[], rfl, X.prog, X.w, [], rfl, List.nodup_nil, .nil⟩⟩⟩⟩
/-! ### the keys, one after another -/
def ItD (d e : Addr) (ob : Obj) (es : Array DictEntry) : L2.It :=
  ⟨fun i H => H d = some (dO e ob) ∧ i < es.size, fun i H x H' => H' = H ∧ ∃ en, es[i]? = some en ∧ RelV x en.key, fun i H => H d = some (dO e ob) ∧ es.size ≤ i⟩
theorem walk_dict {d e : Addr} {ob : Obj} {es : Array DictEntry} : Walk (ItD d e ob es) es.size (fun H => H d = some (dO e ob)) (fun i H x H' => H' = H ∧ ∃ en, es[i]? = some en ∧ RelV x en.key) :=
  ⟨fun _ _ hi q => ⟨q, hi⟩, fun _ q => ⟨q, Nat.le_refl _⟩, fun _ _ _ _ _ _ y => y⟩
theorem turn_dict {P : Program} {w : World} {K : Frag} {tg : Expr} {d e : Addr} {ob : Obj} {es : Array DictEntry} {ep : Nat} {vs : List V} (it : Addr) (hod : ob.data = .dict es ep) (hks : Paired (fun (en : DictEntry) (x : V) => RelV x en.key) es.toList vs) :
    Turn P w K tg (ItD d e ob es) [it] it (fun i h => h.IsKeyIter it d i es.size ep) where
  mem := by simp
  obj := fun i h st b hb => by
    obtain rfl : b = it := by simpa using hb
    obtain ⟨oi, e, c, dd⟩ := st
    exact ⟨oi, e, fun v z => by rw [dd] at z; cases z⟩
  keep := fun i h h' st k => st.at fun oi e => k it (by simp) oi e
  item := by
    intro X hP hw hK hc i pins s σ H E I hf st hg
    subst hP hw hK
    obtain ⟨hd, hi⟩ := hg
    obtain ⟨f0, f1, f2, f3, f4, f5⟩ := hf it (by simp)
    have hgd := (dO_at I hd).2
    refine next_key_item st hgd hod rfl (Array.getElem?_eq_getElem hi) fun h' st' sb => ?_
    have I1 : Inv X pins σ H { s with heap := h' } := I.turned (t' := s.toks) (fun b u hb e => (sb.2 b hb).trans e) f0 f1 f3 f4 f5
    obtain ⟨oi, e, c, dd⟩ := id st'
    have hx : ∃ x : V, RelV x es[i].key := by
      have go : ∀ {l : List DictEntry} {vs : List V}, Paired (fun (en : DictEntry) (x : V) => RelV x en.key) l vs → ∀ en ∈ l, ∃ x : V, RelV x en.key := by
        intro l vs z
        induction z with
        | nil => intro en h; exact nomatch h
        | cons h t ih =>
          intro en hm
          rcases List.mem_cons.mp hm with q | hm
          · subst q; exact ⟨_, h⟩
          · exact ih en hm
      exact go hks _ (Array.mem_toList_iff.mpr (Array.getElem_mem hi))
    obtain ⟨x, hx⟩ := hx
    exact ⟨es[i].key, rfl, go_of (s := { s with heap := h' }) e c dd (by decide) ⟨x, H, I1, hx, ⟨rfl, _, Array.getElem?_eq_getElem hi, hx⟩, st', fun b hb => (hf b hb).1⟩⟩
  done := by
    intro X hP hw hK hc i pins s σ H E I hf st hg
    subst hP hw hK
    obtain ⟨hd, hi⟩ := hg
    obtain ⟨f0, f1, f2, f3, f4, f5⟩ := hf it (by simp)
    exact next_key_end (I.ok.hd hc) st (dO_at I hd).2 hod rfl hi fun h' eb => ⟨rfl, I.turned (t' := s.toks) (fun b u hb e => eb b u hb e) f0 f1 f3 f4 f5⟩
  self := fun A i s Q E st h => by
    refine wpAny_pyIter_slot st.typeIs PySem.F.slot_dict_keyiterator_iter (wpAny_call_entry PySem.F.slot_dict_keyiterator_iter st.typeIs PySem.F.entry_dict_keyiterator_iter (show wpAny _ _ (ret (.ref it)) _ _ s from wpAny_pure ⟨_, rfl, "dict_keyiterator", _, st.typeIs, PySem.F.slot_dict_keyiterator_next.lookup, h⟩) (PySem.F.args_dict_keyiterator_iter_1 _))
end
end Rk

/-! Rk, part Ec: comparisons, subscripts, built-ins. -/
namespace Rk
open PySem PySem.Spec PyProof.Rows L2
section
variable {X : Cx}
/-! comparisons -/
def copOf : COp → CmpOp
  | .eq => .Eq | .ne => .NotEq | .lt => .Lt | .le => .LtE | .gt => .Gt | .ge => .GtE | .isIn => .In | .notIn => .NotIn | .isN => .Is | .notN => .IsNot | .isB => .Is
theorem nd_shaped {d : D} (h : shapedD d = true) : isDict d = false := by
  cases d with
  | dict kvs =>
    have := SeqAt.canLay_of_shaped h
    simp [PyData.canLay0] at this
  | _ => rfl
theorem flat_V {K : Frag} {F H : Hp} {v : V} {d : D} (h : RF K F H v d) (f : flatD d = true) : flatV v = true ∧ ∀ (w : V) (e : D), RF K F H w e → flatD e = true → eqV w v = PyData.eqv e d := by
  cases d with
  | none => rw [h.none]; exact ⟨rfl, fun w e hw fe => by cases e <;> first | (cases fe; done) | (first | rw [hw.none] | rw [hw.bool] | rw [hw.int] | rw [hw.str]) <;> simp [eqV, PyData.eqv]⟩
  | bool b => rw [h.bool]; exact ⟨rfl, fun w e hw fe => by cases e <;> first | (cases fe; done) | (first | rw [hw.none] | rw [hw.bool] | rw [hw.int] | rw [hw.str]) <;> simp [eqV, PyData.eqv]⟩
  | int i => rw [h.int]; exact ⟨rfl, fun w e hw fe => by cases e <;> first | (cases fe; done) | (first | rw [hw.none] | rw [hw.bool] | rw [hw.int] | rw [hw.str]) <;> simp [eqV, PyData.eqv]⟩
  | str x => rw [h.str]; exact ⟨rfl, fun w e hw fe => by cases e <;> first | (cases fe; done) | (first | rw [hw.none] | rw [hw.bool] | rw [hw.int] | rw [hw.str]) <;> simp [eqV, PyData.eqv]⟩
  | list _ => cases f
  | tuple _ => cases f
  | dict _ => cases f

theorem isN_D {K : Frag} {F H : Hp} {v : V} : ∀ {d : D}, RF K F H v d → decide (v = .non) = isNoneD d
  | .none, h => by rw [h.none] <;> rfl
  | .bool b, h => by rw [h.bool] <;> rfl
  | .int b, h => by rw [h.int] <;> rfl
  | .str b, h => by rw [h.str] <;> rfl
  | .list ds, h => by
    rcases h with h | ⟨a, o, rfl, _⟩
    · cases h; rfl
    · rfl
  | .tuple ds, h => by
    rcases h with h | ⟨a, o, rfl, _⟩
    · cases h; rfl
    · rfl
  | .dict ds, h => by
    rcases h with h | ⟨a, o, rfl, _⟩
    · cases h
    · rfl
theorem all_flat {K : Frag} {F H : Hp} : ∀ {ds : List D} {vs : List V}, DpAll K F vs ds → ds.all flatD = true → vs.all flatV = true
  | [], _, h, _ => by cases h; rfl
  | d :: ds, _, h, f => by
    cases h with
    | cons h1 h2 =>
      rw [List.all_cons, Bool.and_eq_true] at f
      rw [List.all_cons, (flat_V (H := H) (.inl h1) f.1).1, all_flat (H := H) h2 f.2, Bool.true_and]
theorem any_flat {K : Frag} {F H : Hp} {v : V} {d : D} (h : RF K F H v d) (f : flatD d = true) : ∀ {ds : List D} {vs : List V}, DpAll K F vs ds → ds.all flatD = true → inV v vs = ds.any fun y => PyData.eqv y d
  | [], _, h', _ => by cases h'; rfl
  | e :: ds, _, h', g => by
    cases h' with
    | cons h1 h2 =>
      rw [List.all_cons, Bool.and_eq_true] at g
      have ih := any_flat h f h2 g.2
      unfold inV at ih ⊢
      rw [List.any_cons, List.any_cons, ih, (flat_V h f).2 _ e (.inl h1) g.1]
theorem in_to {K : Frag} {F H : Hp} {x y : V} {dx : D} {ds : List D} {neg : Bool} {Q : VK} {p : Addr} {vs : List V} (hx : RF K F H x dx) (hs : SqL K H p vs ∨ SqT K H p vs) (ha : DpAll K F vs ds) (f1 : flatD dx = true) (f2 : ds.all flatD = true)
    (q : Q (.bl (if neg then !(ds.any fun y => PyData.eqv y dx) else (ds.any fun y => PyData.eqv y dx))) H) : rIn K neg x (.ref p) H Q := by
  refine ⟨p, vs, rfl, hs, (flat_V hx f1).1, all_flat (H := H) ha f2, ?_⟩
  rw [any_flat hx f1 ha f2]
  exact q
theorem some_if2 {α : Type} {c c' : Bool} {x z : α} (h : (if c = true then some x else if c' = true then some x else none) = some z) : x = z ∧ (c = true ∨ c' = true) := by
  by_cases h1 : c = true
  · rw [if_pos h1] at h
    exact ⟨Option.some.inj h, .inl h1⟩
  · rw [if_neg h1] at h
    obtain ⟨h2, h3⟩ := some_if h
    exact ⟨h3, .inr h2⟩
theorem nd_lay {d : D} (h : d.canLay0 = true) : isDict d = false := by
  cases d with
  | dict kvs => simp [PyData.canLay0] at h
  | _ => rfl
theorem inOk_1 {x : D} {ys : List D} (h : inOk x ys = true) : x.canLay0 = true := by
  unfold inOk at h
  rw [Bool.and_eq_true, Bool.and_eq_true] at h
  exact h.1.1
theorem inOk_2 {x : D} {ys : List D} (h : inOk x ys = true) : PyData.canLayAll0 ys = true := by
  unfold inOk at h
  rw [Bool.and_eq_true, Bool.and_eq_true] at h
  exact h.1.2
theorem inOk_3 {x : D} {ys : List D} {n : Nat} (h : inOk x ys = true) (hu : n + 64 < cLine) : n + 1 + min (PyData.depthAll ys) x.depth < cLine := by
  unfold inOk at h
  rw [Bool.and_eq_true, Bool.and_eq_true] at h
  have h1 := of_decide_eq_true h.2
  have h2 := Nat.min_le_right (PyData.depthAll ys) x.depth
  omega
section
variable {pins : List (Addr × Obj)} {s : Shared} {σ : L2.St} {H : Hp} {x y : V} {v u : Value} {dx : D} {ys : List D} {Q : VK}
theorem inL_sh (hu : X.A.units + 64 < cLine) (I : Inv X pins σ H s) (rx : RelV x v) (ry : RelV y u) (hx : Dp X.K H x dx) (hy : Dp X.K H y (.list ys)) (hc : inOk dx ys = true) (q : Q (.bl (ys.any fun y => PyData.eqv y dx)) H) :
    wpAny (model X.prog X.w) X.A (compareOp .In v u) (EP X pins σ Q) X.xe s := by
  obtain ⟨as, r1⟩ := L2.Dp.reads I dx x v (Dp.lib _ _ hx) rx
  obtain ⟨bs, r2⟩ := L2.Dp.reads I (.list ys) y u (Dp.lib _ _ hy) ry
  exact SeqAt.in_list_reads r2 r1 (inOk_2 hc) (inOk_1 hc) (inOk_3 hc hu) ⟨.bl _, H, I, rfl, q⟩
theorem inT_sh (hu : X.A.units + 64 < cLine) (I : Inv X pins σ H s) (rx : RelV x v) (ry : RelV y u) (hx : Dp X.K H x dx) (hy : Dp X.K H y (.tuple ys)) (hc : inOk dx ys = true) (q : Q (.bl (ys.any fun y => PyData.eqv y dx)) H) :
    wpAny (model X.prog X.w) X.A (compareOp .In v u) (EP X pins σ Q) X.xe s := by
  obtain ⟨as, r1⟩ := L2.Dp.reads I dx x v (Dp.lib _ _ hx) rx
  obtain ⟨bs, r2⟩ := L2.Dp.reads I (.tuple ys) y u (Dp.lib _ _ hy) ry
  exact SeqAt.in_tuple_reads r2 r1 (inOk_2 hc) (inOk_1 hc) (inOk_3 hc hu) ⟨.bl _, H, I, rfl, q⟩
theorem niL_sh (hu : X.A.units + 64 < cLine) (I : Inv X pins σ H s) (rx : RelV x v) (ry : RelV y u) (hx : Dp X.K H x dx) (hy : Dp X.K H y (.list ys)) (hc : inOk dx ys = true) (q : Q (.bl (!ys.any fun y => PyData.eqv y dx)) H) :
    wpAny (model X.prog X.w) X.A (compareOp .NotIn v u) (EP X pins σ Q) X.xe s := by
  obtain ⟨as, r1⟩ := L2.Dp.reads I dx x v (Dp.lib _ _ hx) rx
  obtain ⟨bs, r2⟩ := L2.Dp.reads I (.list ys) y u (Dp.lib _ _ hy) ry
  exact SeqAt.notIn_list_reads r2 r1 (inOk_2 hc) (inOk_1 hc) (inOk_3 hc hu) ⟨.bl _, H, I, rfl, q⟩
theorem niT_sh (hu : X.A.units + 64 < cLine) (I : Inv X pins σ H s) (rx : RelV x v) (ry : RelV y u) (hx : Dp X.K H x dx) (hy : Dp X.K H y (.tuple ys)) (hc : inOk dx ys = true) (q : Q (.bl (!ys.any fun y => PyData.eqv y dx)) H) :
    wpAny (model X.prog X.w) X.A (compareOp .NotIn v u) (EP X pins σ Q) X.xe s := by
  obtain ⟨as, r1⟩ := L2.Dp.reads I dx x v (Dp.lib _ _ hx) rx
  obtain ⟨bs, r2⟩ := L2.Dp.reads I (.tuple ys) y u (Dp.lib _ _ hy) ry
  exact SeqAt.notIn_tuple_reads r2 r1 (inOk_2 hc) (inOk_1 hc) (inOk_3 hc hu) ⟨.bl _, H, I, rfl, q⟩
end
theorem some_if3 {α : Type} {c : Bool} {x z : α} {o : Option α} (h : (if c = true then some x else o) = some z) : (c = true ∧ x = z) ∨ o = some z := by
  cases c with
  | true => exact .inl ⟨rfl, Option.some.inj h⟩
  | false => exact .inr h
theorem strEq_some {x y : D} {z : Bool} (h : strEq x y = some z) : ∃ a b, x = .str a ∧ y = .str b ∧ decide (a = b) = z := by
  unfold strEq at h
  split at h
  · exact ⟨_, _, rfl, rfl, Option.some.inj h⟩
  · cases h
theorem dec_str (a b : Str) : decide (V.str a = V.str b) = decide (a = b) := by
  by_cases e : a = b
  · subst e; simp
  · rw [decide_eq_false e, decide_eq_false fun z => e (V.str.inj z)]
theorem one_sign {z : Str} {c : Nat} (h : z.cps.toList = [c]) : z = ⟨#[c]⟩ := by
  cases z with
  | mk a =>
    have : a = #[c] := Array.toList_inj.mp h
    rw [this]
theorem oc_all (hu : X.A.units + 64 < cLine) (op : COp) : OpR X (compareOp (copOf op)) (rSemB X.K (cmpop op)) := by
  have hu0 : X.A.units < cLine := by omega
  intro pins s σ H x y v u Q I rx ry h
  obtain ⟨F, dx, dy, z, ex, hx, hy, e, q⟩ := h
  cases op with
  | eq =>
    rcases some_if3 (show (if (shapedD dx && shapedD dy) = true then some (PyData.eqv dx dy) else strEq dx dy) = some z from e) with ⟨hc, rfl⟩ | e3
    rotate_left
    · obtain ⟨a, b, rfl, rfl, rfl⟩ := strEq_some e3
      obtain rfl := hx.str
      obtain rfl := hy.str
      refine op_eq pins s σ H _ _ v u Q I rx ry ⟨rfl, ?_⟩
      rw [dec_str]
      exact q
    rw [Bool.and_eq_true] at hc
    exact op_eqD hu pins s σ H x y v u Q I rx ry ⟨dx, dy, Dp.lib _ _ (hx.dp ex (nd_shaped hc.1)), Dp.lib _ _ (hy.dp ex (nd_shaped hc.2)), hc.1, hc.2, q⟩
  | ne =>
    rcases some_if3 (show (if (shapedD dx && shapedD dy) = true then some (!PyData.eqv dx dy) else (strEq dx dy).map (!·)) = some z from e) with ⟨hc, rfl⟩ | e3
    rotate_left
    · obtain ⟨z0, e4, rfl⟩ := Option.map_eq_some_iff.mp e3
      obtain ⟨a, b, rfl, rfl, rfl⟩ := strEq_some e4
      obtain rfl := hx.str
      obtain rfl := hy.str
      refine op_ne pins s σ H _ _ v u Q I rx ry ⟨rfl, ?_⟩
      rw [dec_str]
      exact q
    rw [Bool.and_eq_true] at hc
    exact op_neD hu pins s σ H x y v u Q I rx ry ⟨dx, dy, Dp.lib _ _ (hx.dp ex (nd_shaped hc.1)), Dp.lib _ _ (hy.dp ex (nd_shaped hc.2)), hc.1, hc.2, q⟩
  | lt =>
    cases dx with
    | int i =>
      cases dy with
      | int j => cases e; exact op_lt pins s σ H x y v u Q I rx ry ⟨i, j, hx.int, hy.int, q⟩
      | _ => cases e
    | tuple xs =>
      cases dy with
      | tuple ys =>
        unfold cmpop at e
        cases e1 : intsD xs with
        | none => simp only [e1] at e; cases e
        | some ns =>
          cases e2 : intsD ys with
          | none => simp only [e1, e2] at e; cases e
          | some ms =>
            simp only [e1, e2] at e
            cases e
            obtain ⟨a, vs, rfl, h1, h2⟩ := hx.tup ex
            obtain ⟨b, ws, rfl, h3, h4⟩ := hy.tup ex
            obtain ⟨rfl, _⟩ := DpAll.ints h2 e1
            obtain ⟨rfl, _⟩ := DpAll.ints h4 e2
            exact op_ltT hu0 pins s σ H _ _ v u Q I rx ry ⟨a, b, ns, ms, rfl, rfl, h1.sq, h3.sq, q⟩
      | _ => cases e
    | _ => cases e
  | le =>
    cases dx with
    | int i =>
      cases dy with
      | int j => cases e; exact op_le pins s σ H x y v u Q I rx ry ⟨i, j, hx.int, hy.int, q⟩
      | _ => cases e
    | _ => cases e
  | gt =>
    cases dx with
    | int i =>
      cases dy with
      | int j => cases e; exact op_gt pins s σ H x y v u Q I rx ry ⟨i, j, hx.int, hy.int, q⟩
      | _ => cases e
    | _ => cases e
  | ge =>
    cases dx with
    | int i =>
      cases dy with
      | int j => cases e; exact op_ge pins s σ H x y v u Q I rx ry ⟨i, j, hx.int, hy.int, q⟩
      | _ => cases e
    | _ => cases e
  | isIn =>
    cases dy with
    | list ys =>
      have e' : (if (flatD dx && ys.all flatD) = true then some (ys.any fun y => PyData.eqv y dx) else if inOk dx ys = true then some (ys.any fun y => PyData.eqv y dx) else none) = some z := by cases dx <;> exact e
      have hy0 := hy
      obtain ⟨p, vs, rfl, h1, h2⟩ := hy.list ex
      obtain ⟨rfl, hc⟩ := some_if2 e'
      rcases hc with hc | hc
      case inr => exact inL_sh hu I rx ry (hx.dp ex (nd_lay (inOk_1 hc))) (hy0.dp ex rfl) hc q
      rw [Bool.and_eq_true] at hc
      exact op_in_seq pins s σ H x _ v u Q I rx ry (in_to (neg := false) (y := .ref p) hx (.inl h1) h2 hc.1 hc.2 q)
    | tuple ys =>
      have e' : (if (flatD dx && ys.all flatD) = true then some (ys.any fun y => PyData.eqv y dx) else if inOk dx ys = true then some (ys.any fun y => PyData.eqv y dx) else none) = some z := by cases dx <;> exact e
      have hy0 := hy
      obtain ⟨p, vs, rfl, h1, h2⟩ := hy.tup ex
      obtain ⟨rfl, hc⟩ := some_if2 e'
      rcases hc with hc | hc
      case inr => exact inT_sh hu I rx ry (hx.dp ex (nd_lay (inOk_1 hc))) (hy0.dp ex rfl) hc q
      rw [Bool.and_eq_true] at hc
      exact op_in_seq pins s σ H x _ v u Q I rx ry (in_to (neg := false) (y := .ref p) hx (.inr h1.sq) h2 hc.1 hc.2 q)
    | dict ds =>
      have e' : (if keyFit ds dx = true then some (dFind ds dx).isSome else none) = some z := by cases dx <;> exact e
      obtain ⟨hf, rfl⟩ := some_if e'
      exact dict_in hu I ex ry rx hy hx hf q
    | none => cases dx <;> cases e
    | bool _ => cases dx <;> cases e
    | int _ => cases dx <;> cases e
    | str zy =>
      cases dx with
      | str zx =>
        obtain ⟨c, hc, rfl⟩ : ∃ c, zx.cps.toList = [c] ∧ decide (c ∈ zy.cps.toList) = z := by
          unfold cmpop at e
          simp only at e
          split at e
          · rename_i c hc
            exact ⟨c, hc, Option.some.inj e⟩
          · cases e
        exact op_in_sign pins s σ H x y v u Q I rx ry ⟨c, zy, by rw [hx.str, one_sign hc], hy.str, q⟩
      | _ => cases e
  | notIn =>
    cases dy with
    | list ys =>
      have e' : (if (flatD dx && ys.all flatD) = true then some (!ys.any fun y => PyData.eqv y dx) else if inOk dx ys = true then some (!ys.any fun y => PyData.eqv y dx) else none) = some z := by cases dx <;> exact e
      have hy0 := hy
      obtain ⟨p, vs, rfl, h1, h2⟩ := hy.list ex
      obtain ⟨rfl, hc⟩ := some_if2 e'
      rcases hc with hc | hc
      case inr => exact niL_sh hu I rx ry (hx.dp ex (nd_lay (inOk_1 hc))) (hy0.dp ex rfl) hc q
      rw [Bool.and_eq_true] at hc
      exact op_notIn_seq pins s σ H x _ v u Q I rx ry (in_to (neg := true) (y := .ref p) hx (.inl h1) h2 hc.1 hc.2 q)
    | tuple ys =>
      have e' : (if (flatD dx && ys.all flatD) = true then some (!ys.any fun y => PyData.eqv y dx) else if inOk dx ys = true then some (!ys.any fun y => PyData.eqv y dx) else none) = some z := by cases dx <;> exact e
      have hy0 := hy
      obtain ⟨p, vs, rfl, h1, h2⟩ := hy.tup ex
      obtain ⟨rfl, hc⟩ := some_if2 e'
      rcases hc with hc | hc
      case inr => exact niT_sh hu I rx ry (hx.dp ex (nd_lay (inOk_1 hc))) (hy0.dp ex rfl) hc q
      rw [Bool.and_eq_true] at hc
      exact op_notIn_seq pins s σ H x _ v u Q I rx ry (in_to (neg := true) (y := .ref p) hx (.inr h1.sq) h2 hc.1 hc.2 q)
    | dict ds =>
      have e' : (if keyFit ds dx = true then some (!(dFind ds dx).isSome) else none) = some z := by cases dx <;> exact e
      obtain ⟨hf, rfl⟩ := some_if e'
      exact dict_notIn hu I ex ry rx hy hx hf q
    | none => cases dx <;> cases e
    | bool _ => cases dx <;> cases e
    | int _ => cases dx <;> cases e
    | str zy =>
      cases dx with
      | str zx =>
        obtain ⟨c, hc, rfl⟩ : ∃ c, zx.cps.toList = [c] ∧ (!decide (c ∈ zy.cps.toList)) = z := by
          unfold cmpop at e
          simp only at e
          split at e
          · rename_i c hc
            exact ⟨c, hc, Option.some.inj e⟩
          · cases e
        exact op_notIn_sign pins s σ H x y v u Q I rx ry ⟨c, zy, by rw [hx.str, one_sign hc], hy.str, q⟩
      | _ => cases e
  | isN =>
    cases dy with
    | none =>
      have e' : isNoneD dx = z := by cases dx <;> exact Option.some.inj e
      refine op_isN pins s σ H x y v u Q I rx ry ⟨hy.none, ?_⟩
      rw [isN_D hx, e']
      exact q
    | _ => cases dx <;> cases e
  | notN =>
    cases dy with
    | none =>
      have e' : (!isNoneD dx) = z := by cases dx <;> exact Option.some.inj e
      refine op_notN pins s σ H x y v u Q I rx ry ⟨hy.none, ?_⟩
      rw [isN_D hx, e']
      exact q
    | _ => cases dx <;> cases e
  | isB =>
    cases dx with
    | bool a =>
      cases dy with
      | bool b =>
        cases e
        refine op_is_bl pins s σ H x y v u Q I rx ry ⟨a, b, hx.bool, hy.bool, ?_⟩
        have : decide (a = b) = (a == b) := by cases a <;> cases b <;> rfl
        rw [this]
        exact q
      | _ => cases e
    | _ => cases e
/-! subscripts -/
theorem atI_dp {K : Frag} {F : Hp} {vs : List V} {ds : List D} {i : Int} {d : D} (h : DpAll K F vs ds) (e : atI ds i = some d) : ∃ v, atI vs i = some v ∧ Dp K F v d := by
  unfold atI at e ⊢
  rw [DpAll.length h]
  cases q : ixN ds.length i with
  | none => rw [q] at e; cases e
  | some j =>
    rw [q] at e
    exact DpAll.get h e
theorem oi_all (hu : X.A.units + 64 < cLine) : IxR X (fun x y H Q => ∃ F dx dy d, Ex F H ∧ RF X.K F H x dx ∧ RF X.K F H y dy ∧ idxop dx dy = some d ∧ ∀ v, Dp X.K F v d → Q v H) := by
  intro value slice pins s σ H x y v u Q I rx ry h hs
  obtain ⟨F, dx, dy, d, ex, hx, hy, e, q⟩ := h
  cases dx with
  | list xs =>
    cases dy with
    | int i =>
      obtain ⟨a, vs, rfl, h1, h2⟩ := hx.list ex
      obtain ⟨w, g1, g2⟩ := atI_dp h2 e
      exact ix_list value slice pins s σ H _ y v u Q I rx ry ⟨a, vs, i, w, rfl, hy.int, h1, g1, q w g2⟩ hs
    | _ => cases e
  | tuple xs =>
    cases dy with
    | int i =>
      obtain ⟨a, vs, rfl, h1, h2⟩ := hx.tup ex
      obtain ⟨w, g1, g2⟩ := atI_dp h2 e
      exact ix_tup value slice pins s σ H _ y v u Q I rx ry ⟨a, vs, i, w, rfl, hy.int, h1.sq, g1, q w g2⟩ hs
    | _ => cases e
  | dict ds =>
    obtain ⟨hf, e2⟩ : keyFit ds dy = true ∧ dFind ds dy = some d := by
      cases hf : keyFit ds dy with
      | true =>
        refine ⟨rfl, ?_⟩
        have e3 : (if keyFit ds dy = true then dFind ds dy else none) = some d := by cases dy <;> exact e
        rw [if_pos hf] at e3
        exact e3
      | false =>
        have e3 : (if keyFit ds dy = true then dFind ds dy else none) = some d := by cases dy <;> exact e
        rw [if_neg (by rw [hf]; exact Bool.false_ne_true)] at e3
        cases e3
    obtain ⟨hT, x0, hgi⟩ := dict_item hu I ex rx ry hx hy hf e2 q
    exact subscriptTail_builtinR (x := x0) hT PySem.F.slot_dict_getitem.lookup hgi hs
  | none => cases e
  | bool _ => cases e
  | int _ => cases e
  | str z =>
    cases dy with
    | int i =>
      have e : (if lenOk z.length = true then (L2.atI z.cps.toList i).map (fun c => PyData.str ⟨#[c]⟩) else none) = some d := e
      cases hl : lenOk z.length with
      | false => rw [hl, if_neg Bool.false_ne_true] at e; cases e
      | true =>
        rw [hl, if_pos rfl] at e
        obtain ⟨c, ec, rfl⟩ := Option.map_eq_some_iff.mp e
        exact ix_str value slice pins s σ H _ y v u Q I rx ry ⟨z, i, c, hx.str, hy.int, lenOk_le hl, ec, q _ (.str _)⟩ hs
    | _ => cases e
theorem cut_len {K : Frag} {F : Hp} {vs : List V} {ds : List D} (h : DpAll K F vs ds) (lo hi : Option Int) : DpAll K F (cutV vs lo hi) (cutD ds lo hi) := by
  unfold cutV cutD
  rw [DpAll.length h]
  exact DpAll.take _ (DpAll.drop _ h)
theorem os_all : SlR X (fun x lo hi H Q => ∃ F dx z, Ex F H ∧ RF X.K F H x dx ∧ cutop dx lo hi = some z ∧ Res X.K F H Q z) := by
  intro pins s σ H x v vl vu lo hi sl Q I rx hs pl pu h
  obtain ⟨F, dx, z, ex, hx, e, q⟩ := h
  cases dx with
  | list xs =>
    cases e
    obtain ⟨a, vs, rfl, h1, h2⟩ := hx.list ex
    exact sl_list pins s σ H _ v vl vu lo hi sl Q I rx hs pl pu ⟨a, vs, rfl, h1, fun p hp => q p _ hp (.lst (cut_len h2 lo hi))⟩
  | tuple xs =>
    cases e
    have hx0 := hx
    obtain ⟨a, vs, rfl, h1, h2⟩ := hx.tup ex
    refine sl_tupF pins s σ H _ v vl vu lo hi sl Q I rx hs pl pu ⟨a, vs, rfl, h1.sq, fun w => q.1 _ ?_, fun p o ho hp => q.2 p o _ _ ho rfl hp (cut_len h2 lo hi)⟩
    have : cutD xs lo hi = xs := by
      unfold cutD
      rw [DpAll.length h2] at w
      rw [w.1, w.2]
      simp
    rw [this]
    rcases hx0 with k | ⟨a', o, e1, _, e2⟩
    · exact k
    · cases e2
  | _ => cases e
/-! built-ins -/
def RFall (K : Frag) (F H : Hp) : List V → List D → Prop
  | [], [] => True
  | v :: vs, d :: ds => RF K F H v d ∧ RFall K F H vs ds
  | _, _ => False
def rSemC (K : Frag) (f : List D → Option RV) : List V → Hp → VK → Prop := fun vs H Q => ∃ F ds z, Ex F H ∧ RFall K F H vs ds ∧ f ds = some z ∧ Res K F H Q z
theorem RFall.one {K : Frag} {F H : Hp} {vs : List V} {d : D} (h : RFall K F H vs [d]) : ∃ v, vs = [v] ∧ RF K F H v d := by
  cases vs with
  | nil => exact (show False from h).elim
  | cons v vs =>
    cases vs with
    | nil => exact ⟨v, rfl, (show RF K F H v d ∧ True from h).1⟩
    | cons w ws => exact (show RF K F H v d ∧ False from h).2.elim
theorem RFall.two {K : Frag} {F H : Hp} {vs : List V} {d e : D} (h : RFall K F H vs [d, e]) : ∃ v w, vs = [v, w] ∧ RF K F H v d ∧ RF K F H w e := by
  cases vs with
  | nil => exact (show False from h).elim
  | cons v vs =>
    cases vs with
    | nil => exact (show RF K F H v d ∧ False from h).2.elim
    | cons w ws =>
      cases ws with
      | nil =>
        have h' : RF K F H v d ∧ RF K F H w e ∧ True := h
        exact ⟨v, w, rfl, h'.1, h'.2.1⟩
      | cons x xs => exact (show RF K F H v d ∧ RF K F H w e ∧ False from h).2.2.elim
theorem one_of {ds : List D} {f : List D → Option RV} {z : RV} (e : f ds = some z) (h0 : f [] = none) (h2 : ∀ a b c, f (a :: b :: c) = none) : ∃ d, ds = [d] := by
  match ds, e with
  | [], e => rw [h0] at e; cases e
  | [d], _ => exact ⟨d, rfl⟩
  | a :: b :: c, e => rw [h2] at e; cases e
theorem cb_len : CallR X (.builtin "len") (rSemC X.K (biop .len)) := by
  intro pins s σ H vs us Q I r h
  obtain ⟨F, ds, z, ex, hv, e, q⟩ := h
  obtain ⟨d, rfl⟩ := one_of e rfl (fun a b c => by cases a <;> rfl)
  obtain ⟨v, rfl, hw⟩ := hv.one
  cases d with
  | list xs =>
    cases e
    obtain ⟨a, ws, rfl, h1, h2⟩ := hw.list ex
    refine call_len_seq pins s σ H _ us Q I r ⟨a, ws, rfl, .inl h1, ?_⟩
    rw [DpAll.length h2]
    exact q.1 _ (.int _)
  | tuple xs =>
    cases e
    obtain ⟨a, ws, rfl, h1, h2⟩ := hw.tup ex
    refine call_len_seq pins s σ H _ us Q I r ⟨a, ws, rfl, .inr h1.sq, ?_⟩
    rw [DpAll.length h2]
    exact q.1 _ (.int _)
  | str y =>
    obtain ⟨hl, rfl⟩ := some_if (show (if lenOk y.length = true then some (RV.fz (.int y.length)) else none) = some z from e)
    exact call_len_str pins s σ H _ us Q I r ⟨y, by rw [hw.str], lenOk_le hl, q.1 _ (.int _)⟩
  | _ => cases e
theorem cb_str : CallR X (.type "str") (rSemC X.K (biop .toStr)) := by
  intro pins s σ H vs us Q I r h
  obtain ⟨F, ds, z, ex, hv, e, q⟩ := h
  match ds, e with
  | [.int i], e =>
    obtain ⟨hl, rfl⟩ := some_if (show (if decide (i.natAbs.log2 < 1900) = true then some (RV.fz (.str (Str.ofString (toString i)))) else none) = some z from e)
    obtain ⟨v, rfl, hw⟩ := hv.one
    exact call_str_int pins s σ H _ us Q I r ⟨i, by rw [hw.int], by have := of_decide_eq_true hl; omega, q.1 _ (.str _)⟩
theorem cb_abs : CallR X (.builtin "abs") (rSemC X.K (biop .abs)) := by
  intro pins s σ H vs us Q I r h
  obtain ⟨F, ds, z, ex, hv, e, q⟩ := h
  obtain ⟨d, rfl⟩ := one_of e rfl (fun a b c => by cases a <;> rfl)
  obtain ⟨v, rfl, hw⟩ := hv.one
  cases d with
  | int i => cases e; exact call_abs pins s σ H _ us Q I r ⟨i, by rw [hw.int], q.1 _ (.int _)⟩
  | _ => cases e
theorem cb_min2 (hc : X.calm = true) : CallR X (.builtin "min") (rSemC X.K (biop .min2)) := by
  intro pins s σ H vs us Q I r h
  obtain ⟨F, ds, z, ex, hv, e, q⟩ := h
  match ds, e with
  | [.int i, .int j], e =>
    cases e
    obtain ⟨v, w, rfl, h1, h2⟩ := hv.two
    exact call_min2 hc pins s σ H _ us Q I r ⟨i, j, by rw [h1.int, h2.int], q.1 _ (.int _)⟩
theorem cb_max2 (hc : X.calm = true) : CallR X (.builtin "max") (rSemC X.K (biop .max2)) := by
  intro pins s σ H vs us Q I r h
  obtain ⟨F, ds, z, ex, hv, e, q⟩ := h
  match ds, e with
  | [.int i, .int j], e =>
    cases e
    obtain ⟨v, w, rfl, h1, h2⟩ := hv.two
    exact call_max2 hc pins s σ H _ us Q I r ⟨i, j, by rw [h1.int, h2.int], q.1 _ (.int _)⟩
theorem cb_int : CallR X (.type "int") (rSemC X.K (biop .toInt)) := by
  intro pins s σ H vs us Q I r h
  obtain ⟨F, ds, z, ex, hv, e, q⟩ := h
  match ds, e with
  | [.int i], e =>
    cases e
    obtain ⟨v, rfl, hw⟩ := hv.one
    exact call_int1 pins s σ H _ us Q I r (.inl ⟨i, by rw [hw.int], q.1 _ (.int _)⟩)
  | [.bool b], e =>
    cases e
    obtain ⟨v, rfl, hw⟩ := hv.one
    exact call_int1 pins s σ H _ us Q I r (.inr ⟨b, by rw [hw.bool], q.1 _ (.int _)⟩)
theorem cb_list : CallR X (.type "list") (rSemC X.K (biop .toList)) := by
  intro pins s σ H vs us Q I r h
  obtain ⟨F, ds, z, ex, hv, e, q⟩ := h
  match ds, e with
  | [.list xs], e =>
    cases e
    obtain ⟨v, rfl, hw⟩ := hv.one
    obtain ⟨a, ws, rfl, h1, h2⟩ := hw.list ex
    exact call_list_of pins s σ H _ us Q I r ⟨a, ws, rfl, .inl h1, fun l hl => q l _ hl (.lst h2)⟩
  | [.tuple xs], e =>
    cases e
    obtain ⟨v, rfl, hw⟩ := hv.one
    obtain ⟨a, ws, rfl, h1, h2⟩ := hw.tup ex
    exact call_list_of pins s σ H _ us Q I r ⟨a, ws, rfl, .inr h1.sq, fun l hl => q l _ hl (.lst h2)⟩
theorem cb_tuple : CallR X (.type "tuple") (rSemC X.K (biop .toTuple)) := by
  intro pins s σ H vs us Q I r h
  obtain ⟨F, ds, z, ex, hv, e, q⟩ := h
  match ds, e with
  | [.list xs], e =>
    cases e
    obtain ⟨v, rfl, hw⟩ := hv.one
    obtain ⟨a, ws, rfl, h1, h2⟩ := hw.list ex
    rw [Vals.ref1 r]
    exact tupleOf_list I h1 fun p o ho hp => q.2 p o _ _ ho rfl hp h2
  | [.tuple xs], e =>
    cases e
    obtain ⟨v, rfl, hw⟩ := hv.one
    have hv0 := hw
    obtain ⟨a, ws, rfl, h1, h2⟩ := hw.tup ex
    refine call_tuple_of pins s σ H _ us Q I r ⟨a, ws, rfl, .inr ⟨h1.sq, q.1 _ ?_⟩⟩
    rcases hv0 with k | ⟨a', o, e1, _, e2⟩
    · exact k
    · cases e2
theorem cb_sum (hc : X.calm = true) : CallR X (.builtin "sum") (rSemC X.K (biop .sum)) := by
  intro pins s σ H vs us Q I r h
  obtain ⟨F, ds, z, ex, hv, e, q⟩ := h
  match ds, e with
  | [.list xs], e =>
    obtain ⟨ns, e1, rfl⟩ := Option.map_eq_some_iff.mp (show (intsD xs).map (fun ns => RV.fz (.int ns.sum)) = some z from e)
    obtain ⟨v, rfl, hw⟩ := hv.one
    obtain ⟨a, ws, rfl, h1, h2⟩ := hw.list ex
    obtain ⟨rfl, _⟩ := DpAll.ints h2 e1
    exact cr_sum hc pins s σ H _ us Q I r ⟨a, ns, rfl, h1, q.1 _ (.int _)⟩
theorem cb_all (hc : X.calm = true) : CallR X (.builtin "all") (rSemC X.K (biop .all)) := by
  intro pins s σ H vs us Q I r h
  obtain ⟨F, ds, z, ex, hv, e, q⟩ := h
  match ds, e with
  | [.list xs], e =>
    obtain ⟨ns, e1, rfl⟩ := Option.map_eq_some_iff.mp (show (boolsD xs).map (fun ns => RV.fz (.bool (ns.all id))) = some z from e)
    obtain ⟨v, rfl, hw⟩ := hv.one
    obtain ⟨a, ws, rfl, h1, h2⟩ := hw.list ex
    obtain ⟨rfl, _⟩ := DpAll.bools h2 e1
    exact cr_all hc pins s σ H _ us Q I r ⟨a, ns, rfl, h1, q.1 _ (.bl _)⟩
theorem cb_any (hc : X.calm = true) : CallR X (.builtin "any") (rSemC X.K (biop .any)) := by
  intro pins s σ H vs us Q I r h
  obtain ⟨F, ds, z, ex, hv, e, q⟩ := h
  match ds, e with
  | [.list xs], e =>
    obtain ⟨ns, e1, rfl⟩ := Option.map_eq_some_iff.mp (show (boolsD xs).map (fun ns => RV.fz (.bool (ns.any id))) = some z from e)
    obtain ⟨v, rfl, hw⟩ := hv.one
    obtain ⟨a, ws, rfl, h1, h2⟩ := hw.list ex
    obtain ⟨rfl, _⟩ := DpAll.bools h2 e1
    exact cr_any hc pins s σ H _ us Q I r ⟨a, ns, rfl, h1, q.1 _ (.bl _)⟩
theorem maxI_spec : ∀ (ns : List Int) (n : Int), maxI n ns ∈ n :: ns ∧ ∀ y ∈ n :: ns, y ≤ maxI n ns
  | [], n => ⟨List.mem_cons_self, fun y hy => by rw [List.mem_singleton.mp hy]; exact Int.le_refl n⟩
  | m :: ms, n => by
    have hk : n ≤ (if n < m then m else n) ∧ m ≤ (if n < m then m else n) ∧ ((if n < m then m else n) = n ∨ (if n < m then m else n) = m) := by
      split <;> omega
    obtain ⟨h1, h2⟩ := maxI_spec ms (if n < m then m else n)
    show maxI (if n < m then m else n) ms ∈ _ ∧ ∀ y ∈ _, y ≤ maxI (if n < m then m else n) ms
    generalize (if n < m then m else n) = k at *
    have h3 := h2 k List.mem_cons_self
    refine ⟨?_, fun y hy => ?_⟩
    · rcases List.mem_cons.mp h1 with z | z
      · rw [z]
        rcases hk.2.2 with q | q <;> rw [q] <;> simp
      · exact List.mem_cons_of_mem _ (List.mem_cons_of_mem _ z)
    · have hy : y = n ∨ y = m ∨ y ∈ ms := by simpa using hy
      rcases hy with rfl | rfl | z
      · exact Int.le_trans hk.1 h3
      · exact Int.le_trans hk.2.1 h3
      · exact h2 y (List.mem_cons_of_mem _ z)
theorem minI_spec : ∀ (ns : List Int) (n : Int), minI n ns ∈ n :: ns ∧ ∀ y ∈ n :: ns, minI n ns ≤ y
  | [], n => ⟨List.mem_cons_self, fun y hy => by rw [List.mem_singleton.mp hy]; exact Int.le_refl n⟩
  | m :: ms, n => by
    have hk : (if m < n then m else n) ≤ n ∧ (if m < n then m else n) ≤ m ∧ ((if m < n then m else n) = n ∨ (if m < n then m else n) = m) := by
      split <;> omega
    obtain ⟨h1, h2⟩ := minI_spec ms (if m < n then m else n)
    show minI (if m < n then m else n) ms ∈ _ ∧ ∀ y ∈ _, minI (if m < n then m else n) ms ≤ y
    generalize (if m < n then m else n) = k at *
    have h3 := h2 k List.mem_cons_self
    refine ⟨?_, fun y hy => ?_⟩
    · rcases List.mem_cons.mp h1 with z | z
      · rw [z]
        rcases hk.2.2 with q | q <;> rw [q] <;> simp
      · exact List.mem_cons_of_mem _ (List.mem_cons_of_mem _ z)
    · have hy : y = n ∨ y = m ∨ y ∈ ms := by simpa using hy
      rcases hy with rfl | rfl | z
      · exact Int.le_trans h3 hk.1
      · exact Int.le_trans h3 hk.2.1
      · exact h2 y (List.mem_cons_of_mem _ z)
theorem cb_maxL (hc : X.calm = true) : CallR X (.builtin "max") (rSemC X.K (biop .maxL)) := by
  intro pins s σ H vs us Q I r h
  obtain ⟨F, ds, z, ex, hv, e, q⟩ := h
  match ds, e with
  | [.list xs], e =>
    obtain ⟨ns, e1, e2⟩ := Option.bind_eq_some_iff.mp (show (intsD xs).bind (fun ns => match ns with | [] => none | n :: ns => some (RV.fz (.int (maxI n ns)))) = some z from e)
    cases ns with
    | nil => cases e2
    | cons n ns =>
      cases e2
      obtain ⟨v, rfl, hw⟩ := hv.one
      obtain ⟨a, ws, rfl, h1, h2⟩ := hw.list ex
      obtain ⟨rfl, _⟩ := DpAll.ints h2 e1
      refine cr_max hc pins s σ H _ us Q I r ⟨a, n :: ns, rfl, h1, by simp, fun m hm hy => ?_⟩
      obtain ⟨g1, g2⟩ := maxI_spec ns n
      have : m = maxI n ns := Int.le_antisymm (g2 m hm) (hy _ g1)
      rw [this]
      exact q.1 _ (.int _)
theorem cb_minL (hc : X.calm = true) : CallR X (.builtin "min") (rSemC X.K (biop .minL)) := by
  intro pins s σ H vs us Q I r h
  obtain ⟨F, ds, z, ex, hv, e, q⟩ := h
  match ds, e with
  | [.list xs], e =>
    obtain ⟨ns, e1, e2⟩ := Option.bind_eq_some_iff.mp (show (intsD xs).bind (fun ns => match ns with | [] => none | n :: ns => some (RV.fz (.int (minI n ns)))) = some z from e)
    cases ns with
    | nil => cases e2
    | cons n ns =>
      cases e2
      obtain ⟨v, rfl, hw⟩ := hv.one
      obtain ⟨a, ws, rfl, h1, h2⟩ := hw.list ex
      obtain ⟨rfl, _⟩ := DpAll.ints h2 e1
      refine cr_min hc pins s σ H _ us Q I r ⟨a, n :: ns, rfl, h1, by simp, fun m hm hy => ?_⟩
      obtain ⟨g1, g2⟩ := minI_spec ns n
      have : m = minI n ns := Int.le_antisymm (hy _ g1) (g2 m hm)
      rw [this]
      exact q.1 _ (.int _)
end
end Rk

/-! Rk, part Es: sorted. -/
namespace Rk
open PySem PySem.Spec PyProof.Rows L2
/-- a value of the machine that stands for d -/
def SV (K : Frag) (F : Hp) (v : Value) (d : D) : Prop := ∃ x : V, RelV x v ∧ Dp K F x d
theorem sv_of {K : Frag} {F : Hp} : ∀ {vs : List V} {us : List Value} {ds : List D}, Vals vs us → DpAll K F vs ds → PySem.W.EachIs (SV K F) us ds
  | _, _, [], r, h => by
    cases h
    cases r
    exact .nil
  | _, _, d :: ds, r, h => by
    cases h with
    | cons h1 h2 =>
      cases r with
      | cons r1 r2 => exact .cons ⟨_, r1, h1⟩ (sv_of r2 h2)
theorem sv_to {K : Frag} {F : Hp} : ∀ {us : List Value} {ds : List D}, PySem.W.EachIs (SV K F) us ds → ∃ vs : List V, Vals vs us ∧ DpAll K F vs ds
  | _, _, .nil => ⟨[], .nil, .nil⟩
  | _, _, .cons ⟨x, r, h⟩ t => by
    obtain ⟨vs, a, b⟩ := sv_to t
    exact ⟨x :: vs, .cons r a, .cons h b⟩
theorem alikeP_all {xs : List D} (h : alikeP xs = true) : PySem.W.AllAlike xs := fun d hd d' hd' => by
  unfold alikeP at h
  exact List.all_eq_true.mp (List.all_eq_true.mp h d hd) d' hd'
theorem sortable_of {xs : List D} (h : (xs.all tupNe || xs.all plainS) = true) : PySem.W.Sortable xs := by
  rw [Bool.or_eq_true] at h
  rcases h with h | h
  · refine .inl fun d hd => ?_
    have := List.all_eq_true.mp h d hd
    match d, this with
    | .tuple (x :: r), _ => exact ⟨x, r, rfl⟩
  · refine .inr fun d hd => ?_
    have := List.all_eq_true.mp h d hd
    refine ⟨fun z => ?_, fun ys z => ?_⟩ <;> (subst z; cases this)
theorem sortD_len (xs : List D) : (sortD xs).length = xs.length := by
  unfold sortD
  exact List.length_mergeSort xs
section
variable {X : Cx} {pins : List (Addr × Obj)} {s : Shared} {σ : L2.St} {H F : Hp}
theorem sv_reads (I : Inv X pins σ H s) (ex : Ex F H) : ∀ {us : List Value} {ds : List D}, PySem.W.EachIs (SV X.K F) us ds → PySem.W.EachIs (fun v d => ∃ as, Reads s.heap v d as) us ds
  | _, _, .nil => .nil
  | _, _, .cons ⟨x, r, h⟩ t => .cons (L2.Dp.reads I _ x _ (Dp.lib _ _ (Dp.mono ex _ _ h)) r) (sv_reads I ex t)
theorem sort_new {xs : List D} {us : List Value} {A : Around} {P : PySem.Fin → Shared → Prop} {E : Value → Shared → Prop} (hA : A.units + 60 < cLine) (I : Inv X pins σ H s) (ex : Ex F H) (e : PySem.W.EachIs (SV X.K F) us xs) (hs : sortOk xs = true)
    (q : ∀ (o : HO) (s' : Shared), CRep X.K F o (.list (sortD xs)) → Inv X pins σ (upd H s.heap.objs.size o) s' → P (.done (.ret .none)) s') :
    wpAny (model X.prog X.w) A (Builtin.«list.sort» ⟨[.ref s.heap.objs.size], []⟩) P E { s with heap := s.heap.push (seqObj "list" us.toArray 0) } := by
  unfold sortOk at hs
  rw [Bool.and_eq_true, Bool.and_eq_true, Bool.and_eq_true] at hs
  obtain ⟨h1, h2, h3, h4⟩ := hs
  have h1 := of_decide_eq_true h1
  have hal := alikeP_all h2
  have hlen : us.length = xs.length := PySem.W.EachIs.length e
  have hz : us.length ≤ sizeLine := Nat.le_trans (by omega) (show 100000 ≤ sizeLine by decide)
  have ho : (s.heap.push (seqObj "list" us.toArray 0)).get? s.heap.objs.size = some (seqObj "list" us.toArray 0) := Heap.get?_push_size _ rfl
  have old : ∀ b o, s.heap.get? b = some o → (PySem.W.sortingHeap (s.heap.push (seqObj "list" us.toArray 0)) s.heap.objs.size us).get? b = some o := fun b o z => PySem.W.sortingHeap_old (Nat.ne_of_lt (Heap.lt_size z)) (Heap.get?_push_of_some _ z)
  have er : PySem.W.EachIs (fun v d => ∃ as, Reads (PySem.W.sortingHeap (s.heap.push (seqObj "list" us.toArray 0)) s.heap.objs.size us) v d as) us xs := (sv_reads I ex e).mono fun _ _ ⟨as, r⟩ => ⟨as, PyProof.Rows.Reads.keeps old r⟩
  refine PySem.W.list_sort_vals (s := { s with heap := s.heap.push (seqObj "list" us.toArray 0) }) (κ := PySem.W.dataKind (PySem.W.sortingHeap (s.heap.push (seqObj "list" us.toArray 0)) s.heap.objs.size us) xs) ho
    (PySem.W.SortsAt.data (s := { s with heap := PySem.W.sortingHeap (s.heap.push (seqObj "list" us.toArray 0)) s.heap.objs.size us }) er hal (sortable_of h3) fun d hd => ?_) hz ?_
  · have := of_decide_eq_true (List.all_eq_true.mp h4 d hd)
    omega
  · have es := PySem.W.sortVals_data (h' := PySem.W.sortingHeap (s.heap.push (seqObj "list" us.toArray 0)) s.heap.objs.size us) (enc := id) (bs := xs) (R := SV X.K F) false e er (by rw [List.map_id]; exact hal)
    rw [List.map_id] at es
    obtain ⟨vs, r1, r2⟩ := sv_to es
    obtain ⟨ep, he⟩ := PyProof.Rows.sortedHeap_at (vs := us) (out := (PySem.W.sortVals (PySem.W.dataKind (PySem.W.sortingHeap (s.heap.push (seqObj "list" us.toArray 0)) s.heap.objs.size us) xs) false us us).toArray) ho
    refine q (.lst vs) _ (.lst r2) (I.laid (t' := s.toks) (fun b o z => ?_) (Nat.le_refl _) ⟨?_, _, ep, r1, he⟩)
    · rw [PyProof.Rows.sortedHeap_old (Nat.ne_of_lt (Heap.lt_size z)) (Heap.lt_size (Heap.get?_push_of_some (seqObj "list" us.toArray 0) z))]
      exact Heap.get?_push_of_some _ z
    · rw [DpAll.length r2]
      show (sortD xs).length ≤ _
      rw [sortD_len, ← hlen]
      exact hz
/-- sorted of a thing that is gathered -/
theorem sorted_run {x : Value} {xs : List D} {Q : VK} (hu : X.A.units + 64 < cLine) (ex : Ex F H) (hs : sortOk xs = true) (q : Res X.K F H Q (.fr (.list (sortD xs))))
    (hc : ∀ (E : Value → Shared → Prop) (Q : List Value → Shared → Prop), (∀ us s', Inv X pins σ H s' → PySem.W.EachIs (SV X.K F) us xs → Q us s') → wpAny (model X.prog X.w) X.A.in1 (collect x) Q E s) :
    wpAny (model X.prog X.w) X.A (call (.builtin "sorted") [x]) (EP X pins σ Q) X.xe s := by
  refine Calls.call_function_entry kind_sorted plain_sorted entry_sorted (args_sorted1 _) ?_
  unfold Builtin.«sorted»
  refine wpAny_bind (m := checkCount "sorted" 1 1 _) (wpAny_pure (wpAny_bind (hc _ _ fun us s1 I1 e => ?_)))
  have hlen : us.length = xs.length := PySem.W.EachIs.length e
  have hz : us.length ≤ sizeLine := by
    unfold sortOk at hs
    rw [Bool.and_eq_true] at hs
    have := of_decide_eq_true hs.1
    exact Nat.le_trans (by omega) (show 100000 ≤ sizeLine by decide)
  refine wpAny_bind (wpAny_newList ?_ hz)
  have ho : (s1.heap.push (seqObj "list" us.toArray 0)).get? s1.heap.objs.size = some (seqObj "list" us.toArray 0) := Heap.get?_push_size _ rfl
  refine wpAny_bind (wpAny_holding (wpAny_call_entry slot_list_sort ⟨_, ho, rfl⟩ entry_list_sort (sort_new (by show X.A.units + 1 + 1 + 60 < cLine; omega) I1 ex e hs fun o s2 hc2 I2 => ⟨_, rfl, ?_⟩) (args_list_sort _)))
  exact wpAny_pure ⟨_, rfl, .ref s1.heap.objs.size, _, I2, rfl, q _ o (I1.hok.fresh (Nat.le_refl _)) hc2⟩
theorem each_ix {R : Value → D → Prop} : ∀ {us : List Value} {ds : List D}, us.length = ds.length → (∀ (i : Nat) (u : Value) (d : D), us[i]? = some u → ds[i]? = some d → R u d) → PySem.W.EachIs R us ds
  | [], [], _, _ => .nil
  | u :: us, d :: ds, hl, h => .cons (h 0 u d rfl rfl) (each_ix (by simpa using hl) fun i u d a b => h (i + 1) u d (by simpa using a) (by simpa using b))
  | [], _ :: _, hl, _ => absurd hl (by simp)
  | _ :: _, [], hl, _ => absurd hl (by simp)
theorem paired_ix {α β : Type} {G : α → β → Prop} : ∀ {l : List α} {m : List β}, Paired G l m → ∀ (i : Nat) (a : α) (b : β), l[i]? = some a → m[i]? = some b → G a b
  | _, _, .nil, i, a, b, h, _ => by simp at h
  | _, _, .cons h t, 0, a, b, h1, h2 => by
    simp at h1 h2
    subst h1 h2
    exact h
  | _, _, .cons h t, i + 1, a, b, h1, h2 => paired_ix t i a b (by simpa using h1) (by simpa using h2)
theorem cb_sorted (hcm : X.calm = true) (hu : X.A.units + 64 < cLine) : CallR X (.builtin "sorted") (rSemC X.K (biop .sorted)) := by
  intro pins s σ H vs us Q I r h
  obtain ⟨F, ds, z, ex, hv, e, q⟩ := h
  match ds, e with
  | [.list xs], e =>
    obtain ⟨hs, rfl⟩ := some_if e
    obtain ⟨v, rfl, hw⟩ := hv.one
    obtain ⟨a, ws, rfl, h1, h2⟩ := hw.list ex
    rw [Vals.ref1 r]
    obtain ⟨its, rv, ⟨o, n, ho, hc, _, hd⟩, hz⟩ := I.list h1
    refine sorted_run hu ex hs q fun E Q' k => wpAny_collect_seq a (.inl rfl) ho hc hd (fun h' kp => ?_) (by rw [List.size_toArray]; rw [← rv.length]; exact hz)
    exact k _ _ (I.kept (t' := s.toks) kp) (sv_of rv h2)
  | [.tuple xs], e =>
    obtain ⟨hs, rfl⟩ := some_if e
    obtain ⟨v, rfl, hw⟩ := hv.one
    obtain ⟨a, ws, rfl, h1, h2⟩ := hw.tup ex
    rw [Vals.ref1 r]
    obtain ⟨its, rv, ⟨o, ho, hc, n, hd⟩, hz⟩ := I.tuple h1.sq
    refine sorted_run hu ex hs q fun E Q' k => wpAny_collect_seq a (.inr rfl) ho hc hd (fun h' kp => ?_) (by rw [List.size_toArray]; rw [← rv.length]; exact hz)
    exact k _ _ (I.kept (t' := s.toks) kp) (sv_of rv h2)
  | [.dict ds], e =>
    obtain ⟨hs, rfl⟩ := some_if e
    obtain ⟨v, rfl, hw⟩ := hv.one
    obtain ⟨a, ob, rfl, h1, h2, h3⟩ := rf_dict I hw
    rw [Vals.ref1 r]
    obtain ⟨es, ep, hd, hents⟩ := drep_ents h2
    have hlen : es.toList.length = (dKeys ds).length := by
      unfold dKeys
      rw [List.length_map]
      exact Paired.length hents
    have hsz : es.size ≤ sizeLine := by
      have h4 := dBody_len ds
      have h5 := h2.2.2.1
      unfold dKeys at hlen
      rw [List.length_map, Array.length_toList] at hlen
      exact Nat.le_trans (show es.size ≤ 100002 by omega) (by decide)
    refine sorted_run hu ex hs q fun E Q' k => PySem.W.kdu_collect (KdlSrc.rawDict (es := es) (ep := ep) h2.1) (I.ok.hd hcm) ⟨ob, h3, h2.2.1, hd⟩ hsz fun h' tk acc kp hacc => ?_
    refine k _ _ (I.kept (t' := tk) kp) (each_ix (by rw [Array.length_toList, ← hlen, Array.length_toList]; exact hacc.1) fun i u d hu1 hd1 => ?_)
    obtain ⟨hi, rfl⟩ := hacc.2 i u (by rw [← Array.getElem?_toList]; exact hu1)
    unfold dKeys at hd1
    rw [List.getElem?_map] at hd1
    obtain ⟨p, hp, rfl⟩ := Option.map_eq_some_iff.mp hd1
    exact paired_ix hents i _ _ (by rw [Array.getElem?_toList]; exact Array.getElem?_eq_getElem hi) hp
end
end Rk

/-! Rk, part F: expressions of the text, looked at. -/
namespace Rk
open PySem PySem.Spec PyProof.Rows L2
def visB (sc : Scope) (x : Str) : Bool := match sc.names.lookup x with
  | some .local => true
  | some .cell => true
  | some .free => true
  | _ => false
def locB (sc : Scope) (x : Str) : Bool := match sc.names.lookup x with
  | some .local => true
  | some .cell => true
  | _ => false
def glB (sc : Scope) (x : Str) : Bool := decide (sc.names.lookup x = some .globalImplicit)
def okName (x : Str) : Bool := !(x == ("__debug__" : Str)) && !(x == ("__classdict__" : Str))
def litOk : D → Const → Bool
  | .int i, .int j => decide (i = j)
  | .bool a, .bool b => a == b
  | .none, .none => true
  | .str a, .str b => decide (a = b)
  | _, _ => false
def opEq : Operator → Operator → Bool := fun a b => decide (a = b)
def cmEq : CmpOp → CmpOp → Bool := fun a b => decide (a = b)
def biName : BI → String
  | .toDict => "dict" | .anyI => "any"
  | .len => "len" | .abs => "abs" | .min2 => "min" | .max2 => "max" | .toInt => "int" | .toStr => "str" | .toList => "list" | .toTuple => "tuple" | .sum => "sum" | .all => "all" | .any => "any" | .sorted => "sorted" | .maxL => "max" | .minL => "min" | .bool => "bool"
def biSup : BI → Bool
  | .toDict => true | .anyI => true
  | .len => true | .abs => true | .min2 => true | .max2 => true | .toInt => true | .toList => true | .toTuple => true | .sum => true | .all => true | .any => true | .sorted => true | .toStr => true | .maxL => true | .minL => true | _ => false
def mu0 : MU → Bool
  | .pop => true
  | .clear => true
  | .reverse => true
  | _ => false
def mu1 : MU → Bool
  | .append => true
  | .popAt => true
  | .remove => true
  | _ => false
def mu2 : MU → Bool
  | .insert => true
  | _ => false
def smName : SM → String
  | .join => "join" | .split => "split" | .startswith => "startswith" | .count => "count"
def kdName : Kd → String
  | .int => "int" | .bool => "bool" | .tuple => "tuple" | .list => "list" | .str => "str"
def mtName : MT → String
  | .index => "index" | .count => "count" | .get => "get"
def muName : MU → String
  | .append => "append" | .pop => "pop" | .popAt => "pop" | .insert => "insert" | .clear => "clear" | .reverse => "reverse" | .remove => "remove"
def esLen : Es → Nat
  | .nil => 0
  | .cons _ es => esLen es + 1
def ownN (N : List Str) (own : List Nat) : List (Str × Nat) := own.map fun i => (N.getD i Str.empty, i)
def tgSlots : Tg → List Nat
  | .nm i => [i]
  | .t2 a b => tgSlots a ++ tgSlots b
  | .t3 a b c => tgSlots a ++ (tgSlots b ++ tgSlots c)
  | .t4 a b c d => tgSlots a ++ (tgSlots b ++ (tgSlots c ++ tgSlots d))
def ckTg (N : List Str) (sc : Scope) (fb : Str → Bool) : Tg → Expr → Bool
  | .nm i, .Name x _ => decide (N[i]? = some x) && locB sc x && fb x
  | .t2 a b, .Tuple [x, y] _ _ => ckTg N sc fb a x && ckTg N sc fb b y
  | .t3 a b c, .Tuple [x, y, z] _ _ => ckTg N sc fb a x && (ckTg N sc fb b y && ckTg N sc fb c z)
  | .t4 a b c d, .Tuple [x, y, z, u] _ _ => ckTg N sc fb a x && (ckTg N sc fb b y && (ckTg N sc fb c z && ckTg N sc fb d u))
  | _, _ => false
def isTupX : Expr → Bool
  | .Tuple _ _ _ => true
  | _ => false
def nonSlice : Expr → Bool
  | .Slice _ _ _ _ => false
  | _ => true
def fbIn (scope sc : Scope) (x : Str) : Bool := (scope.names.lookup x == some .cell) || decide ((relS scope sc).names.lookup x = some .local)
/-- a test that is none of the plain kind -/
def plainT : Expr → Bool
  | .UnaryOp .Not _ _ => false
  | .BoolOp _ _ _ => false
  | .IfExp _ _ _ _ => false
  | .Compare _ _ _ _ => false
  | _ => true
def okT : E → Bool
  | .ife _ _ _ => false
  | .and a b => okT a && okT b
  | .or a b => okT a && okT b
  | .not a => okT a
  | _ => true
/-- the number that the program names MOST -/
def mostE : E → Bool
  | .lit (.int i) => decide (i = -6)
  | _ => false
def mostB (N : List Str) (sc : Scope) (x : Str) : Bool := decide (x = ("MOST" : Str)) && glB sc x && decide (("0MOST" : Str) ∈ N)
mutual
def ckE (N : List Str) (sc : Scope) : E → Expr → Bool
  | .var i, .Name x _ => decide (N[i]? = some x) && visB sc x && okName x
  | .lit d, .Constant c _ _ => litOk d c
  | .bin op a b, .BinOp x o y _ => opEq o (opOf op) && (ckE N sc a x && ckE N sc b y)
  | .neg a, .UnaryOp .USub x _ => ckE N sc a x
  | .neg a, .Name x _ => mostE a && mostB N sc x
  | .cmp op a b, .Compare x [o] [y] _ => cmEq o (copOf op) && (ckE N sc a x && ckE N sc b y)
  | .chain op op' a b c, .Compare x [o, o'] [y, z] _ => (cmEq o (copOf op) && cmEq o' (copOf op')) && (ckE N sc a x && (ckE N sc b y && ckE N sc c z))
  | .and a b, .BoolOp .And (x :: y :: r) p => ckE N sc a x && (match r with
    | [] => ckE N sc b y
    | _ => ckE N sc b (.BoolOp .And (y :: r) p))
  | .or a b, .BoolOp .Or (x :: y :: r) p => ckE N sc a x && (match r with
    | [] => ckE N sc b y
    | _ => ckE N sc b (.BoolOp .Or (y :: r) p))
  | .not a, .UnaryOp .Not x _ => ckE N sc a x
  | .ife c a b, .IfExp z x y _ => okT c && (ckE N sc c z && (ckE N sc a x && ckE N sc b y))
  | .tup es, .Tuple xs _ _ => ckEs N sc es xs
  | .lst es, .List xs _ => ckEs N sc es xs
  | .idx a b, .Subscript x y _ => nonSlice y && (ckE N sc a x && ckE N sc b y)
  | .cut a lo hi, .Subscript x (.Slice (some l) (some h) none _) _ => ckE N sc a x && (ckE N sc lo l && ckE N sc hi h)
  | .cutL a lo, .Subscript x (.Slice (some l) none none _) _ => ckE N sc a x && ckE N sc lo l
  | .cutH a hi, .Subscript x (.Slice none (some h) none _) _ => ckE N sc a x && ckE N sc hi h
  | .cutA a, .Subscript x (.Slice none none none _) _ => ckE N sc a x
  | .rev a, .Subscript x (.Slice none none (some (.UnaryOp .USub (.Constant (.int 1) _ _) _)) _) _ => ckE N sc a x
  | .bits a, .Call (.Attribute x n ap) [] [] cp => decide (n = Str.ofString "bit_length") && (ap.endLine == cp.line) && ckE N sc a x
  | .lset a, .Call (.Name x _) [.Call (.Name r _) [y] [] _] [] _ => decide (x = Str.ofString "len") && glB sc x && (decide (r = Str.ofString "set") && glB sc r) && ckE N sc a y
  | .revC a, .Call (.Name x _) [.Call (.Name r _) [y] [] _] [] _ => decide (x = Str.ofString "list") && glB sc x && (decide (r = Str.ofString "reversed") && glB sc r) && ckE N sc a y
  | .call f es, .Call (.Name x _) (y :: ys) [] _ => decide (x = Str.ofString f) && (glB sc x && okName x) && ckEs N sc es (y :: ys)
  | .bi b es, .Call (.Name x _) (y :: ys) [] _ => biSup b && (decide (x = Str.ofString (biName b)) && (glB sc x && ckEs N sc es (y :: ys)))
  | .isi k a, .Call (.Name x _) [y, .Name t _] [] _ => decide (x = Str.ofString "isinstance") && glB sc x && (decide (t = Str.ofString (kdName k)) && glB sc t) && ckE N sc a y
  | .inr neg e e', .Compare x [op] [.Call (.Name r _) [y] [] _] _ => decide (op = if neg then CmpOp.NotIn else CmpOp.In) && (decide (r = Str.ofString "range") && glB sc r) && (ckE N sc e x && ckE N sc e' y)
  | .dget k1 v1 k2 v2 x y, .Call (.Attribute (.Dict [some a, some c] [b, d] _) n ap) [e, f] [] cp => decide (n = Str.ofString "get") && (ap.endLine == cp.line) && (ckE N sc k1 a && (ckE N sc v1 b && (ckE N sc k2 c && (ckE N sc v2 d && (ckE N sc x e && ckE N sc y f)))))
  | .met .index a (.cons e .nil), .Call (.Attribute x n ap) [y] [] cp => decide (n = Str.ofString "index") && (ap.endLine == cp.line) && (ckE N sc a x && ckE N sc e y)
  | .met .get a (.cons e (.cons e' .nil)), .Call (.Attribute x n ap) [y, z] [] cp => decide (n = Str.ofString "get") && (ap.endLine == cp.line) && (ckE N sc a x && (ckE N sc e y && ckE N sc e' z))
  | .dnew _, .Dict [] [] _ => true
  | .sm m a e, .Call (.Attribute x n ap) [y] [] cp => decide (n = Str.ofString (smName m)) && (ap.endLine == cp.line) && (ckE N sc a x && ckE N sc e y)
  | .gc k, .Name y _ => match cstTab[k]? with
    | some c => decide (y = Str.ofString c.1) && glB sc y && okName y && decide (Str.ofString c.2.1 ∈ N)
    | none => false
  | .fstr es, .JoinedStr (x :: y :: xs) _ => ckFs N sc es (x :: y :: xs)
  | .mu m i (.cons e (.cons e' .nil)), .Call (.Attribute (.Name x _) n ap) [y, z] [] cp => mu2 m && decide (n = Str.ofString (muName m)) && (ap.endLine == cp.line) && (decide (N[i]? = some x) && visB sc x && okName x) && (ckE N sc e y && ckE N sc e' z)
  | .mu m i .nil, .Call (.Attribute (.Name x _) n ap) [] [] cp => mu0 m && decide (n = Str.ofString (muName m)) && (ap.endLine == cp.line) && (decide (N[i]? = some x) && visB sc x && okName x)
  | .mu m i (.cons e .nil), .Call (.Attribute (.Name x _) n ap) [y] [] cp => mu1 m && decide (n = Str.ofString (muName m)) && (ap.endLine == cp.line) && (decide (N[i]? = some x) && visB sc x && okName x) && ckE N sc e y
  | .ext i e, .Call (.Attribute (.Name x _) n ap) [y] [] cp => decide (n = Str.ofString "extend") && (ap.endLine == cp.line) && (decide (N[i]? = some x) && visB sc x && okName x) && ckE N sc e y
  | .comp own elt tg it cs, .ListComp y [⟨t, i, ifs, 0⟩] scope _ => blkC N sc scope (ownN N own) && (tgSlots tg).all (fun k => own.contains k) && ckTg N (relS scope sc) (fbIn scope sc) tg t && (ckI N sc it i t && (ckE N (relS scope sc) elt y && ckTs N (relS scope sc) cs ifs))
  | .lrng (.cons e (.cons e' .nil)), .Call (.Name x _) [.Call (.Name r _) [y, z] [] _] [] _ => decide (x = Str.ofString "list") && glB sc x && (decide (r = Str.ofString "range") && glB sc r) && (ckE N sc e y && ckE N sc e' z)
  | .lrng (.cons e .nil), .Call (.Name x _) [.Call (.Name r _) [y] [] _] [] _ => decide (x = Str.ofString "list") && glB sc x && (decide (r = Str.ofString "range") && glB sc r) && ckE N sc e y
  | .lrng (.cons e (.cons e' (.cons e2 .nil))), .Call (.Name x _) [.Call (.Name r _) [y, z, z2] [] _] [] _ => decide (x = Str.ofString "list") && glB sc x && (decide (r = Str.ofString "range") && glB sc r) && ckEs N sc (.cons e (.cons e' (.cons e2 .nil))) [y, z, z2]
  | _, _ => false
def ckEs (N : List Str) (sc : Scope) : Es → List Expr → Bool
  | .nil, [] => true
  | .cons e es, x :: xs => ckE N sc e x && ckEs N sc es xs
  | _, _ => false
def ckFs (N : List Str) (sc : Scope) : Es → List Expr → Bool
  | .nil, [] => true
  | .cons (.lit (.str s)) es, .Constant (.str s') _ _ :: xs => decide (s = s') && ckFs N sc es xs
  | .cons e es, .FormattedValue x (-1) none _ :: xs => ckE N sc e x && ckFs N sc es xs
  | _, _ => false
def ckTs (N : List Str) (sc : Scope) : Es → List Expr → Bool
  | .nil, [] => true
  | .cons e .nil, [x] => okT e && ckE N sc e x
  | _, _ => false
def ckI (N : List Str) (sc : Scope) : It → Expr → Expr → Bool
  | .seq e, i, _ => ckE N sc e i
  | .rng es, .Call (.Name r _) ys [] _, _ => decide (r = Str.ofString "range") && glB sc r && (decide (1 ≤ ys.length ∧ ys.length ≤ 3) && ckEs N sc es ys)
  | .enum e, .Call (.Name r _) [y] [] _, t => decide (r = Str.ofString "enumerate") && glB sc r && (isTupX t && ckE N sc e y)
  | .zip a b, .Call (.Name r _) [x, y] [] _, t => decide (r = Str.ofString "zip") && glB sc r && (isTupX t && (ckE N sc a x && ckE N sc b y))
  | _, _, _ => false
end
def notStar : Expr → Bool
  | .Starred _ _ => false
  | _ => true
def notSet : Expr → Bool
  | .Set _ _ _ => false
  | _ => true
theorem ck_notStar {N : List Str} {sc : Scope} {e : E} {x : Expr} (h : ckE N sc e x = true) : notStar x = true := by
  cases x <;> first | rfl | (cases e <;> simp [ckE] at h)
theorem ck_notSet {N : List Str} {sc : Scope} {e : E} {x : Expr} (h : ckE N sc e x = true) : notSet x = true := by
  cases x <;> first | rfl | (cases e <;> simp [ckE] at h)
theorem star_cons {x : Expr} {xs : List Expr} {env : Env} (h : notStar x = true) : starEach (x :: xs) env = (false, eval x env) :: starEach xs env := by
  cases x <;> first | rfl | cases h
theorem cks_star {N : List Str} {sc : Scope} {env : Env} {pos : Pos} : ∀ {es : Es} {xs : List Expr}, ckEs N sc es xs = true → (backTo pos (starEach xs env)).any (·.1) = false
  | .nil, [], _ => rfl
  | .cons e es, x :: xs, h => by
    unfold ckEs at h
    rw [Bool.and_eq_true] at h
    rw [star_cons (ck_notStar h.1)]
    exact cks_star h.2
  | .nil, _ :: _, h => by simp [ckEs] at h
  | .cons _ _, [], h => by simp [ckEs] at h
theorem behind_of {x : Expr} {op : CmpOp} (h : notSet x = true) : behindInMarks op x = false := by
  cases x <;> first | rfl | cases h
theorem plainT_of {x : Expr} {env : Env} (h : plainT x = true) (whole : Sem Value) : isTrue x env whole = (do let v ← whole; standAt x.pos; holding [v] (truthy v)) := by
  cases x with
  | UnaryOp op a p => cases op <;> first | rfl | cases h
  | BoolOp _ _ _ => cases h
  | IfExp _ _ _ _ => cases h
  | Compare _ _ _ _ => cases h
  | _ => rfl
theorem vis_of {sc : Scope} {x : Str} (h : visB sc x = true) : Vis sc x := by
  unfold visB at h
  unfold Vis
  split at h
  · exact .inl (by assumption)
  · exact .inr (.inl (by assumption))
  · exact .inr (.inr (by assumption))
  · cases h
theorem loc_of {sc : Scope} {x : Str} (h : locB sc x = true) : L2.Loc sc x := by
  unfold locB at h
  unfold L2.Loc
  split at h
  · exact .inl (by assumption)
  · exact .inr (by assumption)
  · cases h
theorem okName_of {x : Str} (h : okName x = true) : (x == ("__debug__" : Str)) = false ∧ (x == ("__classdict__" : Str)) = false := by
  unfold okName at h
  rw [Bool.and_eq_true] at h
  exact ⟨by simpa using h.1, by simpa using h.2⟩
/-- the built-in names that are asked -/
def blts : List String := ["len", "abs", "min", "max", "int", "str", "list", "tuple", "sum", "all", "any", "sorted", "bool", "isinstance", "range", "enumerate", "zip", "reversed", "set", "dict"]
structure Good (cl : Cl) (cv : String → Value) (N : List Str) (sc : Scope) (X : Cx) : Prop where
  calm : X.calm = true
  nd : X.N.Nodup
  eN : X.N = N
  esc : X.env.scope = sc
  hu : X.A.units + 64 < cLine
  fns : ∀ (f : String) (fn : Fn), cl f = some fn → ∃ (a : Addr) (fd : FuncData) (ps : List Str) (j : Nat), FnOk X.prog X.w X.K X.mg X.base (L2N.CX X.prog X.w) j a fd ps (spOf X.K cv ps.length fn) ∧ Room j X.A ∧ X.mg (Str.ofString f) = some (.ref a) ∧ PySem.W.keepIn X.K (.ref a) = true ∧ Binds X.K fd ps [] ∧ ∀ as z, fn as = some z → as.length = ps.length
  blt : ∀ b ∈ blts, X.mg (Str.ofString b) = none
  gm : ∀ c ∈ cstTab, Str.ofString c.2.1 ∈ N → ∃ v u, X.mg (Str.ofString c.1) = some u ∧ RelV v u ∧ ∀ F, Dp X.K F v c.2.2
theorem takesN {X : Cx} : L2N.Takes X (fun _ _ _ _ => False) := fun _ _ x => by
  obtain ⟨_, _, _, _, _, _, _, _, _, _, _, _, _, _, _, _, z⟩ := x
  exact z.elim
theorem Good.gl {cl : Cl} {cv : String → Value} {N : List Str} {sc : Scope} {X : Cx} (g : Good cl cv N sc X) {x : Str} (h : glB sc x = true) : Gl X x := by
  unfold Gl Env.kindOf
  rw [g.esc]
  exact of_decide_eq_true h
end Rk

/-! Rk, part G: expressions, one by one. -/
namespace Rk
open PySem PySem.Spec PyProof.Rows L2
section
variable (K : Frag) (pr : List Nat) (W : WX) (cv : String → Value)
abbrev tE (ev : Ro → O RV) : TE := tO K pr W cv ev (pX K pr)
abbrev tS (ev : Ro → O RV) : TE := tO K pr W cv ev (pS K pr)
abbrev tD (ev : Ro → O D) : TE := tO K pr W cv ev (pD K pr)
abbrev tT (ev : Ro → O Bool) : TT := tO K pr W cv ev (pB K pr)
abbrev tDs (ev : Ro → O (List D)) : TA := tO K pr W cv ev (pDs K pr)
abbrev tSs (ev : Ro → O (List RV)) : TA := tO K pr W cv ev (pSs K pr)
abbrev tAs (ev : Ro → O (List RV)) : TA := tO K pr W cv ev (pA K pr)
end
section
variable {K : Frag} {pr : List Nat} {W : WX} {cv : String → Value} {fm : Fm} {π : List Pin} {F : Hp} {σ : St} {r : Ro} {H : Hp}
theorem R.rf {v : V} {x : RV} {d : D} (h : R K fm pr π F σ r H) (hv : Val K F σ v x) (e : rd r x = some d) : RF K F H v d := by
  cases x with
  | fr d' => exact hv.elim
  | fz d' => cases e; exact .inl hv
  | pk i =>
    unfold rd at e
    have hv : σ[i]? = some (some v) := hv
    cases hi : r[i]? with
    | none => simp only [hi] at e; cases e
    | some s =>
      simp only [hi] at e
      cases s with
      | un => cases e
      | fz d' =>
        cases e
        obtain ⟨v', h1, h2⟩ := h.fz i _ hi
        rw [hv] at h1
        cases h1
        exact .inl h2
      | ow d' =>
        cases e
        obtain ⟨a, o, h1, h2, h3, _⟩ := h.ow i _ hi
        rw [hv] at h1
        cases h1
        exact .inr ⟨a, o, rfl, h2, h3⟩
      | lk d' =>
        cases e
        obtain ⟨p, hp, hs⟩ := h.lks i _ hi
        obtain ⟨h1, d2, h2, h3⟩ := h.lock p hp i hs
        rw [hv] at h1
        cases h1
        rw [hi] at h2
        cases h2
        exact .inr ⟨p.a, p.o, rfl, (h.pin p hp).1, h3⟩
theorem RX.rf {v : V} {x : RV} {d : D} (h : RX K fm pr π F σ r H v x) (e : rd r x = some d) : R K fm pr π F σ r H ∧ RF K F H v d := by
  cases x with
  | fz d' => exact ⟨h.1, h.1.rf (x := .fz d') h.2 e⟩
  | pk i => exact ⟨h.1, h.1.rf (x := .pk i) h.2 e⟩
  | fr d' =>
    cases e
    obtain ⟨p, o, rfl, hR, hc, _⟩ := h
    exact ⟨hR.drop rfl, .inr ⟨p, o, rfl, (hR.pin ⟨none, p, o⟩ List.mem_cons_self).1, hc⟩⟩
theorem RX.st {v : V} {x : RV} (h : RX K fm pr π F σ r H v x) : R K fm pr π F σ r H := by
  cases x with
  | fz d' => exact h.1
  | pk i => exact h.1
  | fr d' =>
    obtain ⟨p, o, rfl, hR, hc, _⟩ := h
    exact hR.drop rfl
theorem R.parN (h : R K fm pr π F σ r H) {p : Addr} (hp : H p = none) : ∀ q ∈ fm.P, q.2 ≠ p := fun q hq e => by
  obtain ⟨u, z⟩ := h.par4 q hq
  rw [e, hp] at z
  cases z
theorem res_of {z : RV} {Q : VK} (h : R K fm pr π F σ r H) (g : Go K pr W cv fm π F σ (.ok z r) (pX K pr fm π σ) Q) (hz : ∀ i, z ≠ .pk i) : Res K F H Q z := by
  cases z with
  | pk i => exact absurd rfl (hz i)
  | fz d =>
    refine ⟨fun v hv => g.val ⟨h, hv⟩, fun p o vs ds ho e hp ha => ?_⟩
    subst e
    have ex : Ex F (upd F p (.frz o (.tup vs))) := Ex.new (fnew h.sub hp)
    exact g.val2 ex ⟨h.newF hp (nfl_tup _ _), .tup (.inl ⟨o, upd_same, ho⟩) (DpAll.mono ex _ _ ha)⟩
  | fr d => exact fun p o hp hc => g.val ⟨p, o, rfl, h.newP hp, hc, h.parN hp⟩
theorem go_fz {d : D} {v : V} {Q : VK} (k : Go K pr W cv fm π F σ (.ok (.fz d) r) (pX K pr fm π σ) Q) (h : R K fm pr π F σ r H) (hd : Dp K F v d) : Q v H := k.val ⟨h, hd⟩
theorem Go.no {α β : Type} {P : Hp → Ro → Hp → β → α → Prop} {Q : β → Hp → Prop} (h : Go K pr W cv fm π F σ (.no) P Q) : False := h
theorem Vall.rf : ∀ {vs : List V} {xs : List RV} {ds : List D}, R K fm pr π F σ r H → Vall K F σ vs xs → rds r xs = some ds → RFall K F H vs ds
  | [], [], ds, _, _, e => by cases e; trivial
  | v :: vs, x :: xs, ds, h, hv, e => by
    unfold rds at e
    cases e1 : rd r x with
    | none => simp only [e1] at e; cases e
    | some d =>
      cases e2 : rds r xs with
      | none => simp only [e1, e2] at e; cases e
      | some es =>
        simp only [e1, e2] at e
        cases e
        exact ⟨h.rf hv.1 e1, Vall.rf h hv.2 e2⟩
  | [], _ :: _, _, _, h, _ => h.elim
  | _ :: _, [], _, _, h, _ => h.elim
end
theorem binop_npk {op : BOp} {x y : D} {z : RV} (e : binop op x y = some z) : ∀ i, z ≠ .pk i := by
  intro i hz
  subst hz
  cases op <;> cases x <;> cases y <;> first
    | (simp [binop] at e; done)
    | (unfold binop at e; split at e <;> simp at e; done)
    | (unfold binop at e; split at e <;> first | (cases e; done) | (split at e <;> first | (cases e; done) | (simp at e; done)))
theorem cutop_npk {x : D} {lo hi : Option Int} {z : RV} (e : cutop x lo hi = some z) : ∀ i, z ≠ .pk i := by
  intro i hz
  subst hz
  cases x <;> simp [cutop] at e
section
variable {X : Cx} {pr : List Nat} {W : WX} {cv : String → Value} {cl : Cl} {N : List Str} {sc : Scope}
theorem _root_.L2.PE.of {e : Expr} {t t' : TE} (h : PE X e t) (k : ∀ σ H Q, t' σ H Q → t σ H Q) : PE X e t' := ⟨fun pins s σ H Q I q => h.run pins s σ H Q I (k σ H Q q)⟩
theorem _root_.L2.PT.of {e : Expr} {t t' : TT} (h : PT X e t) (k : ∀ σ H Q, t' σ H Q → t σ H Q) : PT X e t' := ⟨fun pins s σ H Q I q => h.run pins s σ H Q I (k σ H Q q)⟩
theorem _root_.L2.PA.of {e : List Expr} {t t' : TA} (h : PA X e t) (k : ∀ σ H Q, t' σ H Q → t σ H Q) : PA X e t' := ⟨fun pos pins s σ H Q I q => h.run pos pins s σ H Q I (k σ H Q q)⟩
theorem pe_S {x : Expr} {ev : Ro → O RV} (h : PE X x (tE X.K pr W cv ev)) : PE X x (tS X.K pr W cv fun r => stl (ev r)) :=
  h.of fun σ H Q ⟨fm, π, F, r, hR, g⟩ => ⟨fm, π, F, r, hR, Go.settle g⟩
theorem pe_C {x : Expr} {ev : Ro → O RV} (h : PE X x (tE X.K pr W cv ev)) : PE X x (tD X.K pr W cv fun r => cpo (ev r)) :=
  h.of fun σ H Q ⟨fm, π, F, r, hR, g⟩ => ⟨fm, π, F, r, hR, Go.cap g⟩
theorem gE_var (g : Good cl cv N sc X) {i : Nat} {x : Str} {p : Pos} (h1 : N[i]? = some x) (h2 : visB sc x = true) (h3 : okName x = true) : PE X (.Name x p) (tE X.K pr W cv (evE cl pr (.var i))) := by
  obtain ⟨n1, n2⟩ := okName_of h3
  refine (pe_var (i := i) (by rw [g.eN]; exact h1) (by rw [g.esc]; exact vis_of h2) n1 n2).of fun σ H Q ⟨fm, π, F, r, hR, k⟩ => ?_
  unfold evE at k
  cases e : r[i]? with
  | none => simp only [e] at k; exact k.no.elim
  | some s =>
    simp only [e] at k
    cases s with
    | un => exact k.no.elim
    | fz d =>
      obtain ⟨v, h1, h2⟩ := hR.fz i d e
      exact ⟨v, h1, k.val ⟨hR, h2⟩⟩
    | ow d =>
      obtain ⟨a, o, h1, _⟩ := hR.ow i d e
      exact ⟨_, h1, k.val ⟨hR, h1⟩⟩
    | lk d =>
      obtain ⟨p, hp, hs⟩ := hR.lks i d e
      obtain ⟨h1, _⟩ := hR.lock p hp i hs
      exact ⟨_, h1, k.val ⟨hR, h1⟩⟩
theorem gE_lit {d : D} {c : Const} {j : Nat} {p : Pos} (h : litOk d c = true) : PE X (.Constant c j p) (tE X.K pr W cv (evE cl pr (.lit d))) := by
  cases d with
  | none =>
    cases c with
    | none => exact pe_non.of fun σ H Q ⟨fm, π, F, r, hR, k⟩ => go_fz k hR (.non)
    | _ => cases h
  | bool b =>
    cases c with
    | bool b' =>
      obtain rfl : b = b' := by simpa [litOk] using h
      exact pe_bl.of fun σ H Q ⟨fm, π, F, r, hR, k⟩ => go_fz k hR (.bl b)
    | _ => cases h
  | int i =>
    cases c with
    | int j' =>
      obtain rfl : i = j' := by simpa [litOk] using h
      exact pe_int.of fun σ H Q ⟨fm, π, F, r, hR, k⟩ => go_fz k hR (.int i)
    | _ => cases h
  | str b =>
    cases c with
    | str b' =>
      obtain rfl : b = b' := by simpa [litOk] using h
      exact pe_str.of fun σ H Q ⟨fm, π, F, r, hR, k⟩ => go_fz k hR (.str b)
    | _ => cases h
  | _ => cases h
theorem gE_bin {op : BOp} {a b : E} {x y : Expr} {p : Pos} (ha : PE X x (tE X.K pr W cv (evE cl pr a))) (hb : PE X y (tE X.K pr W cv (evE cl pr b))) : PE X (.BinOp x (opOf op) y p) (tE X.K pr W cv (evE cl pr (.bin op a b))) := by
  refine (pe_op (ob_all op) (pe_S ha) hb).of fun σ H Q ⟨fm, π, F, r, hR, k⟩ => ?_
  unfold evE at k
  refine ⟨fm, π, F, r, hR, (Go.bind k).imp fun v H1 ⟨F1, r1, u, e1, ⟨hR1, hv⟩, k1⟩ => ?_⟩
  refine ⟨fm, π, F1, r1, hR1, (Go.bind k1).imp fun w H2 ⟨F2, r2, t, e2, ht, k2⟩ => ?_⟩
  cases q1 : rd r2 u with
  | none => simp only [q1] at k2; exact k2.no.elim
  | some dx =>
    cases q2 : rd r2 t with
    | none => simp only [q1, q2] at k2; exact k2.no.elim
    | some dy =>
      simp only [q1, q2] at k2
      obtain ⟨hR2, hw⟩ := RX.rf ht q2
      obtain ⟨z, ez, k3⟩ := k2.lift
      exact ⟨F2, dx, dy, z, hR2.sub, hR2.rf (hv.mono e2) q1, hw, ez, res_of hR2 k3 (binop_npk ez)⟩
theorem gE_neg {a : E} {x : Expr} {p : Pos} (ha : PE X x (tE X.K pr W cv (evE cl pr a))) : PE X (.UnaryOp .USub x p) (tE X.K pr W cv (evE cl pr (.neg a))) := by
  refine (pe_un un_neg ha).of fun σ H Q ⟨fm, π, F, r, hR, k⟩ => ?_
  unfold evE at k
  refine ⟨fm, π, F, r, hR, (Go.bind k).imp fun v H1 ⟨F1, r1, u, e1, hu, k1⟩ => ?_⟩
  cases u with
  | fz d =>
    cases d with
    | int i =>
      obtain ⟨hR1, hd⟩ := hu
      cases hd
      exact ⟨i, rfl, k1.val ⟨hR1, .int _⟩⟩
    | _ => exact k1.no.elim
  | _ => exact k1.no.elim
/-- the two sides of a comparison, then the answer -/
theorem go_cmp {op : COp} {b : E} {fm : Fm} {π : List Pin} {F1 : Hp} {σ : St} {r1 : Ro} {H1 : Hp} {v : V} {u : RV} {Q : VK} (hv : Val X.K F1 σ v u)
    (k1 : Go X.K pr W cv fm π F1 σ ((evE cl pr b r1).bind fun y r => match rd r u, rd r y with
      | some dx, some dy => (match cmpop op dx dy with
        | some b => .ok (.fz (.bool b)) r
        | none => .no)
      | _, _ => .no) (pX X.K pr fm π σ) Q) (hR1 : R X.K fm pr π F1 σ r1 H1) : tE X.K pr W cv (evE cl pr b) σ H1 fun w H2 => rSemB X.K (cmpop op) v w H2 Q := by
  refine ⟨fm, π, F1, r1, hR1, (Go.bind k1).imp fun w H2 ⟨F2, r2, t, e2, ht, k2⟩ => ?_⟩
  cases q1 : rd r2 u with
  | none => simp only [q1] at k2; exact k2.no.elim
  | some dx =>
    cases q2 : rd r2 t with
    | none => simp only [q1, q2] at k2; exact k2.no.elim
    | some dy =>
      simp only [q1, q2] at k2
      obtain ⟨hR2, hw⟩ := RX.rf ht q2
      cases q3 : cmpop op dx dy with
      | none => simp only [q3] at k2; exact k2.no.elim
      | some z =>
        simp only [q3] at k2
        exact ⟨F2, dx, dy, z, hR2.sub, hR2.rf (hv.mono e2) q1, hw, q3, k2.val ⟨hR2, .bl z⟩⟩
theorem gE_cmp (g : Good cl cv N sc X) {op : COp} {a b : E} {x y : Expr} {p : Pos} (ny : notSet y = true) (ha : PE X x (tE X.K pr W cv (evE cl pr a))) (hb : PE X y (tE X.K pr W cv (evE cl pr b))) :
    PE X (.Compare x [copOf op] [y] p) (tE X.K pr W cv (evE cl pr (.cmp op a b))) := by
  refine (pe_cmpR (oc_all g.hu op) (pe_S ha) hb (behind_of ny)).of fun σ H Q ⟨fm, π, F, r, hR, k⟩ => ?_
  unfold evE at k
  exact ⟨fm, π, F, r, hR, (Go.bind k).imp fun v H1 ⟨F1, r1, u, e1, ⟨hR1, hv⟩, k1⟩ => go_cmp hv k1 hR1⟩
/-- a truth as a test -/
theorem tT_E {ev : Ro → O RV} {σ : St} {H : Hp} {Q : Bool → Hp → Prop} (h : tT X.K pr W cv (fun r => (ev r).bind asBool) σ H Q) : tE X.K pr W cv ev σ H (fun v H1 => ∃ c, v = .bl c ∧ Q c H1) := by
  obtain ⟨fm, π, F, r, hR, k⟩ := h
  refine ⟨fm, π, F, r, hR, (Go.bind k).imp fun v H1 ⟨F1, r1, u, e1, hu, k1⟩ => ?_⟩
  cases u with
  | fz d =>
    cases d with
    | bool b =>
      obtain ⟨hR1, hd⟩ := hu
      cases hd
      exact ⟨b, rfl, k1.val ⟨hR1, rfl⟩⟩
    | _ => exact k1.no.elim
  | _ => exact k1.no.elim
theorem gT_plain {e : E} {x : Expr} (hp : plainT x = true) (h : PE X x (tE X.K pr W cv (evE cl pr e))) : PT X x (tT X.K pr W cv fun r => (evE cl pr e r).bind asBool) :=
  (pt_val h (plainT_of hp)).of fun σ H Q q => tT_E q
theorem gT_cmp (g : Good cl cv N sc X) {op : COp} {a b : E} {x y : Expr} {p : Pos} (ny : notSet y = true) (ha : PE X x (tE X.K pr W cv (evE cl pr a))) (hb : PE X y (tE X.K pr W cv (evE cl pr b))) :
    PT X (.Compare x [copOf op] [y] p) (tT X.K pr W cv fun r => (evE cl pr (.cmp op a b) r).bind asBool) := by
  refine (pt_cmpR (oc_all g.hu op) (pe_S ha) hb (behind_of ny)).of fun σ H Q q => ?_
  obtain ⟨fm, π, F, r, hR, k⟩ := tT_E q
  unfold evE at k
  exact ⟨fm, π, F, r, hR, (Go.bind k).imp fun v H1 ⟨F1, r1, u, e1, ⟨hR1, hv⟩, k1⟩ => go_cmp hv k1 hR1⟩
theorem go_chain {op op' : COp} {a b c : E} {σ : St} {H : Hp} {Q : VK} (h : tE X.K pr W cv (evE cl pr (.chain op op' a b c)) σ H Q) :
    tChain (rSemB X.K (cmpop op)) (rSemB X.K (cmpop op')) (tS X.K pr W cv (fun r => stl (evE cl pr a r))) (tS X.K pr W cv (fun r => stl (evE cl pr b r))) (tE X.K pr W cv (evE cl pr c)) σ H Q := by
  obtain ⟨fm, π, F, r, hR, k⟩ := h
  unfold evE at k
  refine ⟨fm, π, F, r, hR, (Go.bind k).imp fun v H1 ⟨F1, r1, u, e1, ⟨hR1, hv⟩, k1⟩ => ?_⟩
  refine ⟨fm, π, F1, r1, hR1, (Go.bind k1).imp fun w H2 ⟨F2, r2, t, e2, ⟨hR2, hw⟩, k2⟩ => ?_⟩
  cases q1 : rd r2 u with
  | none => simp only [q1] at k2; exact k2.no.elim
  | some dx =>
    cases q2 : rd r2 t with
    | none => simp only [q1, q2] at k2; exact k2.no.elim
    | some dy =>
      simp only [q1, q2] at k2
      cases q3 : cmpop op dx dy with
      | none => simp only [q3] at k2; exact k2.no.elim
      | some z =>
        simp only [q3] at k2
        refine ⟨F2, dx, dy, z, hR2.sub, hR2.rf (hv.mono e2) q1, hR2.rf hw q2, q3, z, rfl, ?_⟩
        cases z with
        | false =>
          rw [if_neg Bool.false_ne_true]
          exact k2.val ⟨hR2, .bl _⟩
        | true =>
          rw [if_pos rfl]
          simp only at k2
          refine ⟨fm, π, F2, r2, hR2, (Go.bind k2).imp fun y H3 ⟨F3, r3, o, e3, ho, k3⟩ => ?_⟩
          cases q4 : rd r3 t with
          | none => simp only [q4] at k3; exact k3.no.elim
          | some dy' =>
            cases q5 : rd r3 o with
            | none => simp only [q4, q5] at k3; exact k3.no.elim
            | some dz =>
              simp only [q4, q5] at k3
              obtain ⟨hR3, hy⟩ := RX.rf ho q5
              cases q6 : cmpop op' dy' dz with
              | none => simp only [q6] at k3; exact k3.no.elim
              | some z' =>
                simp only [q6] at k3
                exact ⟨F3, dy', dz, z', hR3.sub, hR3.rf (hw.mono e3) q4, hy, q6, k3.val ⟨hR3, .bl _⟩⟩
theorem lastM {op op' : CmpOp} {y z : Expr} (nz : notSet z = true) : lastMarks [op, op'] [y, z] = false := by
  show behindInMarks op' z = false
  exact behind_of nz
theorem gE_chain (g : Good cl cv N sc X) {op op' : COp} {a b c : E} {x y z : Expr} {p : Pos} (nz : notSet z = true) (ha : PE X x (tE X.K pr W cv (evE cl pr a))) (hb : PE X y (tE X.K pr W cv (evE cl pr b))) (hc : PE X z (tE X.K pr W cv (evE cl pr c))) :
    PE X (.Compare x [copOf op, copOf op'] [y, z] p) (tE X.K pr W cv (evE cl pr (.chain op op' a b c))) :=
  (pe_chain (oc_all g.hu op) (oc_all g.hu op') (pe_S ha) (pe_S hb) hc (lastM nz)).of fun σ H Q h => go_chain h
theorem gT_chain (g : Good cl cv N sc X) {op op' : COp} {a b c : E} {x y z : Expr} {p : Pos} (nz : notSet z = true) (ha : PE X x (tE X.K pr W cv (evE cl pr a))) (hb : PE X y (tE X.K pr W cv (evE cl pr b))) (hc : PE X z (tE X.K pr W cv (evE cl pr c))) :
    PT X (.Compare x [copOf op, copOf op'] [y, z] p) (tT X.K pr W cv fun r => (evE cl pr (.chain op op' a b c) r).bind asBool) :=
  (pt_chain (oc_all g.hu op) (oc_all g.hu op') (pe_S ha) (pe_S hb) hc (lastM nz)).of fun σ H Q q => go_chain (tT_E q)
/-- a truth is asked, then the rest -/
theorem go_bool {α β : Type} {ev : Ro → O RV} {f : Bool → Ro → O α} {fm : Fm} {π : List Pin} {F : Hp} {σ : St} {r : Ro} {P : Hp → Ro → Hp → β → α → Prop} {Q : β → Hp → Prop}
    (k : Go X.K pr W cv fm π F σ ((ev r).bind fun x r => (asBool x r).bind f) P Q) {Q' : V → Hp → Prop} (hQ : ∀ c F1 r1 H1, Ex F F1 → R X.K fm pr π F1 σ r1 H1 → Go X.K pr W cv fm π F1 σ (f c r1) P Q → Q' (.bl c) H1) :
    Go X.K pr W cv fm π F σ (ev r) (pX X.K pr fm π σ) Q' := by
  refine (Go.bind k).imp fun v H1 ⟨F1, r1, u, e1, hu, k1⟩ => ?_
  cases u with
  | fz d =>
    cases d with
    | bool b =>
      obtain ⟨hR1, hd⟩ := hu
      cases hd
      exact hQ b F1 r1 H1 e1 hR1 k1
    | _ => exact k1.no.elim
  | _ => exact k1.no.elim
theorem bool_last {b : E} {fm : Fm} {π : List Pin} {F : Hp} {σ : St} {r : Ro} {H : Hp} {Q : VK} (hR : R X.K fm pr π F σ r H) (k : Go X.K pr W cv fm π F σ ((evE cl pr b r).bind fun y r => (asBool y r).bind fun k r => .ok (.fz (.bool k)) r) (pX X.K pr fm π σ) Q) :
    tE X.K pr W cv (evE cl pr b) σ H Q :=
  ⟨fm, π, F, r, hR, go_bool k fun c F1 r1 H1 e1 hR1 k1 => go_fz k1 hR1 (.bl c)⟩
theorem go_and {a b : E} {σ : St} {H : Hp} {Q : VK} (h : tE X.K pr W cv (evE cl pr (.and a b)) σ H Q) : tAndV (tE X.K pr W cv (evE cl pr a)) (tE X.K pr W cv (evE cl pr b)) σ H Q := by
  obtain ⟨fm, π, F, r, hR, k⟩ := h
  unfold evE at k
  refine ⟨fm, π, F, r, hR, go_bool k fun c F1 r1 H1 e1 hR1 k1 => ⟨c, rfl, ?_⟩⟩
  cases c with
  | true =>
    rw [if_pos rfl] at k1 ⊢
    exact bool_last hR1 k1
  | false =>
    rw [if_neg Bool.false_ne_true] at k1 ⊢
    exact k1.val ⟨hR1, .bl _⟩
theorem go_or {a b : E} {σ : St} {H : Hp} {Q : VK} (h : tE X.K pr W cv (evE cl pr (.or a b)) σ H Q) : tOrV (tE X.K pr W cv (evE cl pr a)) (tE X.K pr W cv (evE cl pr b)) σ H Q := by
  obtain ⟨fm, π, F, r, hR, k⟩ := h
  unfold evE at k
  refine ⟨fm, π, F, r, hR, go_bool k fun c F1 r1 H1 e1 hR1 k1 => ⟨c, rfl, ?_⟩⟩
  cases c with
  | true =>
    rw [if_pos rfl] at k1 ⊢
    exact k1.val ⟨hR1, .bl _⟩
  | false =>
    rw [if_neg Bool.false_ne_true] at k1 ⊢
    exact bool_last hR1 k1
theorem gE_and2 {a b : E} {x y : Expr} {p : Pos} (ha : PE X x (tE X.K pr W cv (evE cl pr a))) (hb : PE X y (tE X.K pr W cv (evE cl pr b))) : PE X (.BoolOp .And [x, y] p) (tE X.K pr W cv (evE cl pr (.and a b))) :=
  (pe_and ha (pe_one hb)).of fun σ H Q h => go_and h
theorem gE_and3 {a b : E} {x y z : Expr} {zs : List Expr} {p : Pos} (ha : PE X x (tE X.K pr W cv (evE cl pr a))) (hb : PE X (.BoolOp .And (y :: z :: zs) p) (tE X.K pr W cv (evE cl pr b))) : PE X (.BoolOp .And (x :: y :: z :: zs) p) (tE X.K pr W cv (evE cl pr (.and a b))) :=
  (pe_and ha hb).of fun σ H Q h => go_and h
theorem gE_or2 {a b : E} {x y : Expr} {p : Pos} (ha : PE X x (tE X.K pr W cv (evE cl pr a))) (hb : PE X y (tE X.K pr W cv (evE cl pr b))) : PE X (.BoolOp .Or [x, y] p) (tE X.K pr W cv (evE cl pr (.or a b))) :=
  (pe_or ha (pe_one hb)).of fun σ H Q h => go_or h
theorem gE_or3 {a b : E} {x y z : Expr} {zs : List Expr} {p : Pos} (ha : PE X x (tE X.K pr W cv (evE cl pr a))) (hb : PE X (.BoolOp .Or (y :: z :: zs) p) (tE X.K pr W cv (evE cl pr b))) : PE X (.BoolOp .Or (x :: y :: z :: zs) p) (tE X.K pr W cv (evE cl pr (.or a b))) :=
  (pe_or ha hb).of fun σ H Q h => go_or h
theorem gE_not {a : E} {x : Expr} {p : Pos} (ha : PE X x (tE X.K pr W cv (evE cl pr a))) : PE X (.UnaryOp .Not x p) (tE X.K pr W cv (evE cl pr (.not a))) := by
  refine (pe_not ha).of fun σ H Q ⟨fm, π, F, r, hR, k⟩ => ?_
  unfold evE at k
  exact ⟨fm, π, F, r, hR, go_bool k fun c F1 r1 H1 e1 hR1 k1 => ⟨c, rfl, go_fz k1 hR1 (.bl _)⟩⟩
/-! tests -/
theorem go_boolT {ev : Ro → O RV} {f : Bool → Ro → O RV} {fm : Fm} {π : List Pin} {F : Hp} {σ : St} {r : Ro} {Q : Bool → Hp → Prop}
    (k : Go X.K pr W cv fm π F σ (((ev r).bind fun x r => (asBool x r).bind f).bind asBool) (pB X.K pr fm π σ) Q) {Q' : Bool → Hp → Prop}
    (hQ : ∀ c F1 r1 H1, Ex F F1 → R X.K fm pr π F1 σ r1 H1 → Go X.K pr W cv fm π F1 σ ((f c r1).bind asBool) (pB X.K pr fm π σ) Q → Q' c H1) :
    Go X.K pr W cv fm π F σ ((ev r).bind asBool) (pB X.K pr fm π σ) Q' := by
  cases e : ev r with
  | no => rw [e] at k; exact k
  | ex c r' => rw [e] at k; exact k
  | ok x r' =>
    rw [e] at k
    cases x with
    | fz d =>
      cases d with
      | bool b => exact fun v F1 H1 e1 p => by obtain ⟨p1, rfl⟩ := p; exact hQ _ F1 r' H1 e1 p1 (Go.up k e1)
      | _ => exact k
    | _ => exact k
theorem gT_and2 {a b : E} {x y : Expr} {p : Pos} (ha : PT X x (tT X.K pr W cv fun r => (evE cl pr a r).bind asBool)) (hb : PW X (.BoolOp .And [y] p) (tT X.K pr W cv fun r => (evE cl pr b r).bind asBool)) :
    PW X (.BoolOp .And [x, y] p) (tT X.K pr W cv fun r => (evE cl pr (.and a b) r).bind asBool) := by
  refine ⟨fun wh pins s σ H Q I q => (pw_and ha hb).run wh pins s σ H Q I ?_⟩
  obtain ⟨fm, π, F, r, hR, k⟩ := q
  unfold evE at k
  refine ⟨fm, π, F, r, hR, go_boolT k fun c F1 r1 H1 e1 hR1 k1 => ?_⟩
  cases c with
  | true =>
    rw [if_pos rfl] at k1 ⊢
    exact ⟨fm, π, F1, r1, hR1, go_boolT k1 fun c F2 r2 H2 e2 hR2 k2 => k2.val ⟨hR2, rfl⟩⟩
  | false =>
    rw [if_neg Bool.false_ne_true] at k1 ⊢
    exact k1.val ⟨hR1, rfl⟩
theorem gT_and3 {a b : E} {x y z : Expr} {zs : List Expr} {p : Pos} (ha : PT X x (tT X.K pr W cv fun r => (evE cl pr a r).bind asBool)) (hb : PW X (.BoolOp .And (y :: z :: zs) p) (tT X.K pr W cv fun r => (evE cl pr b r).bind asBool)) :
    PW X (.BoolOp .And (x :: y :: z :: zs) p) (tT X.K pr W cv fun r => (evE cl pr (.and a b) r).bind asBool) := by
  refine ⟨fun wh pins s σ H Q I q => (pw_and ha hb).run wh pins s σ H Q I ?_⟩
  obtain ⟨fm, π, F, r, hR, k⟩ := q
  unfold evE at k
  refine ⟨fm, π, F, r, hR, go_boolT k fun c F1 r1 H1 e1 hR1 k1 => ?_⟩
  cases c with
  | true =>
    rw [if_pos rfl] at k1 ⊢
    exact ⟨fm, π, F1, r1, hR1, go_boolT k1 fun c F2 r2 H2 e2 hR2 k2 => k2.val ⟨hR2, rfl⟩⟩
  | false =>
    rw [if_neg Bool.false_ne_true] at k1 ⊢
    exact k1.val ⟨hR1, rfl⟩
theorem gT_or2 {a b : E} {x y : Expr} {p : Pos} (ha : PT X x (tT X.K pr W cv fun r => (evE cl pr a r).bind asBool)) (hb : PW X (.BoolOp .Or [y] p) (tT X.K pr W cv fun r => (evE cl pr b r).bind asBool)) :
    PW X (.BoolOp .Or [x, y] p) (tT X.K pr W cv fun r => (evE cl pr (.or a b) r).bind asBool) := by
  refine ⟨fun wh pins s σ H Q I q => (pw_or ha hb).run wh pins s σ H Q I ?_⟩
  obtain ⟨fm, π, F, r, hR, k⟩ := q
  unfold evE at k
  refine ⟨fm, π, F, r, hR, go_boolT k fun c F1 r1 H1 e1 hR1 k1 => ?_⟩
  cases c with
  | true =>
    rw [if_pos rfl] at k1 ⊢
    exact k1.val ⟨hR1, rfl⟩
  | false =>
    rw [if_neg Bool.false_ne_true] at k1 ⊢
    exact ⟨fm, π, F1, r1, hR1, go_boolT k1 fun c F2 r2 H2 e2 hR2 k2 => k2.val ⟨hR2, rfl⟩⟩
theorem gT_or3 {a b : E} {x y z : Expr} {zs : List Expr} {p : Pos} (ha : PT X x (tT X.K pr W cv fun r => (evE cl pr a r).bind asBool)) (hb : PW X (.BoolOp .Or (y :: z :: zs) p) (tT X.K pr W cv fun r => (evE cl pr b r).bind asBool)) :
    PW X (.BoolOp .Or (x :: y :: z :: zs) p) (tT X.K pr W cv fun r => (evE cl pr (.or a b) r).bind asBool) := by
  refine ⟨fun wh pins s σ H Q I q => (pw_or ha hb).run wh pins s σ H Q I ?_⟩
  obtain ⟨fm, π, F, r, hR, k⟩ := q
  unfold evE at k
  refine ⟨fm, π, F, r, hR, go_boolT k fun c F1 r1 H1 e1 hR1 k1 => ?_⟩
  cases c with
  | true =>
    rw [if_pos rfl] at k1 ⊢
    exact k1.val ⟨hR1, rfl⟩
  | false =>
    rw [if_neg Bool.false_ne_true] at k1 ⊢
    exact ⟨fm, π, F1, r1, hR1, go_boolT k1 fun c F2 r2 H2 e2 hR2 k2 => k2.val ⟨hR2, rfl⟩⟩
theorem gT_not {a : E} {x : Expr} {p : Pos} (ha : PT X x (tT X.K pr W cv fun r => (evE cl pr a r).bind asBool)) : PT X (.UnaryOp .Not x p) (tT X.K pr W cv fun r => (evE cl pr (.not a) r).bind asBool) := by
  refine (pt_not ha).of fun σ H Q ⟨fm, π, F, r, hR, k⟩ => ?_
  unfold evE at k
  exact ⟨fm, π, F, r, hR, go_boolT k fun c F1 r1 H1 e1 hR1 k1 => k1.val ⟨hR1, rfl⟩⟩
theorem gE_ife {c a b : E} {z x y : Expr} {p : Pos} (hc : PT X z (tT X.K pr W cv fun r => (evE cl pr c r).bind asBool)) (ha : PE X x (tE X.K pr W cv (evE cl pr a))) (hb : PE X y (tE X.K pr W cv (evE cl pr b))) :
    PE X (.IfExp z x y p) (tE X.K pr W cv (evE cl pr (.ife c a b))) := by
  refine (pe_ifExp hc ha hb).of fun σ H Q ⟨fm, π, F, r, hR, k⟩ => ?_
  unfold evE at k
  have k' : Go X.K pr W cv fm π F σ (((evE cl pr c r).bind asBool).bind fun k r => if k = true then evE cl pr a r else evE cl pr b r) (pX X.K pr fm π σ) Q := by
    cases e : evE cl pr c r with
    | no => rw [e] at k; exact k
    | ex c r' => rw [e] at k; exact k
    | ok x r' => rw [e] at k; exact k
  refine ⟨fm, π, F, r, hR, (Go.bind k').imp fun b1 H1 ⟨F1, r1, u, e1, ⟨hR1, hu⟩, k1⟩ => ?_⟩
  subst hu
  cases b1 with
  | true =>
    rw [if_pos rfl] at k1 ⊢
    exact ⟨fm, π, F1, r1, hR1, k1⟩
  | false =>
    rw [if_neg Bool.false_ne_true] at k1 ⊢
    exact ⟨fm, π, F1, r1, hR1, k1⟩
end
end Rk

/-! Rk, part H: lists of expressions, displays, subscripts, calls. -/
namespace HT
open PySem PySem.Spec PyProof.Rows
section
variable {prog : Program} {w : World} {A : Around} {E : Value → Shared → Prop} {s : Shared}
theorem adjust_rev (n : Nat) : Builtin.Slice.sliceAdjust none none (-1) (n : Int) = ((n : Int) - 1, -1) := rfl
theorem places_rev (n : Nat) : Builtin.Slice.slicePlaces ((n : Int) - 1) (-1) (-1) = n := by
  unfold Builtin.Slice.slicePlaces
  have h1 : ¬ ((-1 : Int) > 0) := by omega
  rw [if_neg h1, show (-(-1) : Int) = 1 from rfl, Int.ediv_one]
  split <;> omega
theorem fmap_congr {α β : Type} {f g : α → Option β} : ∀ {l : List α}, (∀ m ∈ l, f m = g m) → l.filterMap f = l.filterMap g
  | [], _ => rfl
  | m :: l, h => by
    have ih := fmap_congr (l := l) fun x hx => h x (List.mem_cons_of_mem _ hx)
    rw [List.filterMap_cons, List.filterMap_cons, h m List.mem_cons_self, ih]
theorem pick_rev (xs : Array Value) : ((List.range xs.size).filterMap fun (m : Nat) => xs[(((xs.size : Int) - 1) + (m : Int) * (-1)).toNat]?).toArray = xs.toList.reverse.toArray := by
  have e : (List.range xs.size).filterMap (fun (m : Nat) => xs[(((xs.size : Int) - 1) + (m : Int) * (-1)).toNat]?) = ((List.range xs.size).map fun k => xs.size - 1 - k).filterMap (xs[·]?) := by
    rw [List.filterMap_map]
    refine fmap_congr fun m hm => ?_
    have := List.mem_range.mp hm
    show _ = xs[xs.size - 1 - m]?
    rw [show (((xs.size : Int) - 1) + (m : Int) * (-1)).toNat = xs.size - 1 - m by omega]
  rw [e, PySem.W.krv_range, List.filterMap_reverse, PySem.W.krv_all]
theorem sliceApplied_rev {sl : Addr} {vl vu vs : Value} {n : Nat} {Q : Int × Int × Nat → Shared → Prop} (hs : s.heap.IsSliceOf sl vl vu vs) (pl : IsPart vl none) (pu : IsPart vu none) (ps : IsPart vs (some (-1)))
    (h : Q ((n : Int) - 1, -1, n) s) : wpAny (model prog w) A (Builtin.Slice.sliceApplied (.ref sl) (pure (n : Int))) Q E s := by
  obtain ⟨os, hos, hcs, hds⟩ := id hs
  unfold Builtin.Slice.sliceApplied Builtin.Slice.sliceFields
  refine wpAny_bind (wpAny_bind (wpAny_field hos hds (x := vl) rfl (wpAny_bind (wpAny_field hos hds (x := vu) rfl (wpAny_bind (wpAny_field hos hds (x := vs) rfl (wpAny_pure ?_)))))))
  refine wpAny_bind (slicePart_ ps ?_)
  show wpAny _ _ (if ((-1 : Int) == 0) = true then _ else _) _ _ s
  rw [if_neg (by decide)]
  refine wpAny_bind (slicePart_ pl (wpAny_bind (slicePart_ pu (wpAny_bind (wpAny_pure ?_)))))
  show wpAny _ _ (match Builtin.Slice.sliceAdjust none none (-1) (n : Int) with | (lo, hi) => pure (lo, (-1 : Int), Builtin.Slice.slicePlaces lo hi (-1))) _ _ s
  rw [adjust_rev n]
  show wpAny _ _ (pure ((n : Int) - 1, (-1 : Int), Builtin.Slice.slicePlaces ((n : Int) - 1) (-1) (-1))) _ _ s
  rw [places_rev]
  exact wpAny_pure h
theorem getItem_tuple_rev {t sl : Addr} {items : Array Value} {vl vu vs : Value} {Q : Value → Shared → Prop} (ht : IsTup s.heap t items) (hs : s.heap.IsSliceOf sl vl vu vs) (pl : IsPart vl none) (pu : IsPart vu none) (ps : IsPart vs (some (-1)))
    (h : Q (.ref s.heap.objs.size) { s with heap := s.heap.push { cls := .type "tuple", data := .seq items.toList.reverse.toArray } })
    (hsz : items.size ≤ sizeLine) : wpAny (model prog w) A (getItem (.ref t) (.ref sl)) Q E s := by
  have htake : sizeOk (.seq items.toList.reverse.toArray) := by
    show items.toList.reverse.toArray.size ≤ sizeLine
    rw [List.size_toArray, List.length_reverse, Array.length_toList]
    exact hsz
  obtain ⟨os, hos, hcs, hds⟩ := id hs
  have hTs : s.TypeIs (.ref sl) "slice" := ⟨os, hos, hcs⟩
  unfold getItem
  try with_reducible refine wpAny_holding ?_
  first | refine wpAny_bind (wpAny_pure ?_) | skip
  refine wpAny_bind (wpAny_sequenceKey ht.typeIs (by decide) ?_)
  refine wpAny_bind (wpAny_callSpecial?_slot (name := Str.ofString "__getitem__") ht.typeIs PyProof.Rows.slot_tuple_getitem
    (wpAny_call_entry PyProof.Rows.slot_tuple_getitem ht.typeIs entry_tuple_getitem ?_ (args_tuple_getitem _ _)))
  show wpAny _ _ (Builtin.Tuple.tupleItemsOf (.ref t) >>= _) _ _ s
  refine wpAny_bind (tupleItemsOf_ ht ?_)
  refine wpAny_bind (wpAny_typeOf hTs ?_)
  rw [if_pos (by decide)]
  refine wpAny_bind (sliceApplied_rev hs pl pu ps ?_)
  have hno : ¬ (((items.size : Int) - 1 == 0 && (-1 : Int) == 1 && items.size == items.size) = true) := by
    intro q
    rw [Bool.and_eq_true, Bool.and_eq_true] at q
    exact absurd q.1.2 (by decide)
  show wpAny _ _ (if ((items.size : Int) - 1 == 0 && (-1 : Int) == 1 && items.size == items.size) = true then _ else _) _ _ s
  rw [if_neg hno, pick_rev]
  first
    | exact wpAny_bind (m := Builtin.Tuple.tupleExact _) (wpAny_newObj_type (wpAny_pure ⟨_, rfl, wpAny_pure h⟩) htake)
    | exact wpAny_bind (m := Builtin.Tuple.tupleExact _) (wpAny_newObj_type (wpAny_bind (wpAny_pure (wpAny_pure ⟨_, rfl, wpAny_pure h⟩))) htake)
    | exact wpAny_bind (wpAny_bind (m := Builtin.Tuple.tupleExact _) (wpAny_newObj_type (wpAny_pure (wpAny_pure ⟨_, rfl, wpAny_pure h⟩)) htake))
    | exact wpAny_bind (wpAny_bind (m := Builtin.Tuple.tupleExact _) (wpAny_newObj_type (wpAny_pure ⟨_, rfl, wpAny_pure h⟩) htake))
end
end HT
namespace Rk
open PySem PySem.Spec PyProof.Rows L2
section
variable {X : Cx}
/-! xs[::-1], a list or a tuple -/
def tRevB (K : PySem.W.Frag) (te : TE) : TE := fun σ H Q => te σ H fun x H1 => ∃ a xs, x = .ref a ∧ ((SqL K H1 a xs ∧ ∀ p, H1 p = none → Q (.ref p) (upd H1 p (.lst xs.reverse))) ∨ (SqT K H1 a xs ∧ ∀ (p : Addr) (o : Obj), o.dict = none → H1 p = none → Q (.ref p) (upd H1 p (.frz o (.tup xs.reverse)))))
theorem pe_revB {e : Expr} {te : TE} {k : Nat} {p1 p2 p3 pos : Pos} (he : PE X e te) : PE X (.Subscript e (.Slice none none (some (.UnaryOp .USub (.Constant (.int 1) k p1) p2)) p3) pos) (tRevB X.K te) := by
  refine ⟨fun pins s σ H Q I h => ?_⟩
  refine Subscript_ (thn (he.run pins s σ H _ I h) fun v s1 ⟨x, H1, I1, r1, q1⟩ => ?_)
  obtain ⟨a, xs, ex, q⟩ := q1
  subst ex
  cases r1
  have hst : PO X (some (.UnaryOp .USub (.Constant (.int 1) k p1) p2)) (tPart (tUn (rU fun i => .int (-i)) (tC (.int 1)))) := po_some (pe_un un_neg pe_int)
  refine wpAny_Slice (thn (po_none.run pins s1 σ H1 (fun o H2 => o = none ∧ H2 = H1) I1 ⟨rfl, rfl⟩) fun vl s2 ⟨l, H2, I2, pl, el, e2⟩ => ?_)
  subst el e2
  refine thn (po_none.run pins s2 σ H2 (fun o H3 => o = none ∧ H3 = H2) I2 ⟨rfl, rfl⟩) fun vu s3 ⟨u, H3, I3, pu, eu, e3⟩ => ?_
  subst eu e3
  refine thn (hst.run pins s3 σ H3 (fun o H4 => o = some (-1) ∧ H4 = H3) I3 ⟨1, rfl, -1, rfl, rfl, rfl⟩) fun vs s4 ⟨o, H4, I4, ps, eo, e4⟩ => ?_
  subst eo e4
  have I5 : Inv X pins σ H4 { s4 with heap := s4.heap.push { cls := .type "slice", data := .fields #[vl, vu, vs] } } := I4.kept (t' := s4.toks) fun b ob q => Heap.get?_push_of_some _ q
  rcases q with ⟨hx, q⟩ | ⟨hx, q⟩
  · obtain ⟨its, r, ht, hz⟩ := I5.list hx
    have hlen := r.length
    show wpAny (model X.prog X.w) X.A (subscriptTail e (.Slice none none (some (.UnaryOp .USub (.Constant (.int 1) k p1) p2)) p3) (.ref a) (.ref s4.heap.objs.size)) (EP X pins σ Q) X.xe { s4 with heap := s4.heap.push { cls := .type "slice", data := .fields #[vl, vu, vs] } }
    refine tail_any (ops := [.ref a, .ref s4.heap.objs.size]) ht.isList.typeIs (PySem.slot_list_getitem.lookup) ?_ (by with_unfolding_all rfl)
    refine wpAny_getItem_list_slice ht.isList (Heap.IsSliceOf.new _ vl vu vs) pl pu ps (by decide) ?_ (by rw [List.size_toArray]; omega)
    rw [PySem.W.krv_pick]
    refine ⟨.ref _, _, I5.laid (t' := s4.toks) (o := .lst xs.reverse) (fun b ob q => Heap.get?_push_of_some _ q) (Nat.le_refl _) ?_, rfl, q _ (I5.hok.fresh (Nat.le_refl _))⟩
    exact ⟨by rw [List.length_reverse]; exact hz, _, 0, r.reverse, Heap.get?_push_size _ rfl⟩
  · obtain ⟨its, r, ht, hz⟩ := I5.tuple hx
    have hlen := r.length
    show wpAny (model X.prog X.w) X.A (subscriptTail e (.Slice none none (some (.UnaryOp .USub (.Constant (.int 1) k p1) p2)) p3) (.ref a) (.ref s4.heap.objs.size)) (EP X pins σ Q) X.xe { s4 with heap := s4.heap.push { cls := .type "slice", data := .fields #[vl, vu, vs] } }
    refine tail_any (ops := [.ref a, .ref s4.heap.objs.size]) ht.typeIs (PyProof.Rows.slot_tuple_getitem.lookup) ?_ (by with_unfolding_all rfl)
    refine HT.getItem_tuple_rev ht (Heap.IsSliceOf.new _ vl vu vs) pl pu ps ?_ (by rw [List.size_toArray]; omega)
    exact ⟨.ref _, _, laid_t I5 r.reverse (by rw [List.length_reverse]; exact hz), rfl, q _ _ rfl (I5.hok.fresh (Nat.le_refl _))⟩
end
end Rk
namespace Rk
open PySem PySem.Spec PyProof.Rows L2
section
variable {X : Cx} {pr : List Nat} {W : WX} {cv : String → Value} {cl : Cl} {N : List Str} {sc : Scope}
theorem gCs_nil : PA X [] (tDs X.K pr W cv (evCs cl pr .nil)) := pa_nil.of fun σ H Q ⟨fm, π, F, r, hR, k⟩ => k.val2 (Ex.refl F) ⟨hR, .nil⟩
theorem gCs_cons {e : E} {es : Es} {x : Expr} {xs : List Expr} (nx : notStar x = true) (h : PE X x (tE X.K pr W cv (evE cl pr e))) (hs : PA X xs (tDs X.K pr W cv (evCs cl pr es))) : PA X (x :: xs) (tDs X.K pr W cv (evCs cl pr (.cons e es))) := by
  refine (pa_cons (pe_C h) hs (star_cons nx)).of fun σ H Q ⟨fm, π, F, r, hR, k⟩ => ?_
  unfold evCs at k
  refine ⟨fm, π, F, r, hR, (Go.bind k).imp fun v H1 ⟨F1, r1, d, e1, ⟨hR1, hd⟩, k1⟩ => ?_⟩
  exact ⟨fm, π, F1, r1, hR1, (Go.bind k1).imp fun vs H2 ⟨F2, r2, ds, e2, ⟨hR2, hds⟩, k2⟩ => k2.val2 (Ex.refl F2) ⟨hR2, .cons (Dp.mono e2 _ _ hd) hds⟩⟩
theorem gSs_nil : PA X [] (tSs X.K pr W cv (evSs cl pr .nil)) := pa_nil.of fun σ H Q ⟨fm, π, F, r, hR, k⟩ => k.val2 (Ex.refl F) ⟨hR, trivial⟩
theorem gSs_cons {e : E} {es : Es} {x : Expr} {xs : List Expr} (nx : notStar x = true) (h : PE X x (tE X.K pr W cv (evE cl pr e))) (hs : PA X xs (tSs X.K pr W cv (evSs cl pr es))) : PA X (x :: xs) (tSs X.K pr W cv (evSs cl pr (.cons e es))) := by
  refine (pa_cons (pe_S h) hs (star_cons nx)).of fun σ H Q ⟨fm, π, F, r, hR, k⟩ => ?_
  unfold evSs at k
  refine ⟨fm, π, F, r, hR, (Go.bind k).imp fun v H1 ⟨F1, r1, d, e1, ⟨hR1, hd⟩, k1⟩ => ?_⟩
  exact ⟨fm, π, F1, r1, hR1, (Go.bind k1).imp fun vs H2 ⟨F2, r2, ds, e2, ⟨hR2, hds⟩, k2⟩ => k2.val2 (Ex.refl F2) ⟨hR2, hd.mono e2, hds⟩⟩
theorem RA.nil {fm : Fm} {π : List Pin} {F : Hp} {σ : St} {r : Ro} {H : Hp} (h : R X.K fm pr π F σ r H) : RA X.K pr fm π F σ r H [] [] :=
  ⟨π, 0, .inl rfl, h, rfl, fun k v x hv _ => by simp at hv⟩
theorem RA.one {fm : Fm} {π : List Pin} {F : Hp} {σ : St} {r : Ro} {H : Hp} {v : V} {x : RV} (h : RX X.K fm pr π F σ r H v x) : RA X.K pr fm π F σ r H [v] [x] := by
  have two : ∀ {k : Nat} {v' : V} {x' : RV}, [v][k]? = some v' → [x][k]? = some x' → k = 0 ∧ v' = v ∧ x' = x := fun {k v' x'} h1 h2 => by
    cases k with
    | zero => simp at h1 h2; exact ⟨rfl, h1.symm, h2.symm⟩
    | succ k => simp at h1
  cases x with
  | fz d => exact ⟨π, 0, .inl rfl, h.1, rfl, fun k v' x' h1 h2 => by obtain ⟨_, rfl, rfl⟩ := two h1 h2; exact .inl h.2⟩
  | pk i => exact ⟨π, 0, .inl rfl, h.1, rfl, fun k v' x' h1 h2 => by obtain ⟨_, rfl, rfl⟩ := two h1 h2; exact .inl h.2⟩
  | fr d =>
    obtain ⟨p, o, rfl, hR, hc, hq⟩ := h
    exact ⟨⟨none, p, o⟩ :: π, 0, .inr ⟨p, o, rfl, hq⟩, hR, rfl, fun k v' x' h1 h2 => by obtain ⟨rfl, rfl, rfl⟩ := two h1 h2; exact .inr ⟨p, o, d, rfl, rfl, rfl, hc, rfl⟩⟩
theorem gAs_nil : PA X [] (tAs X.K pr W cv (evAs cl pr .nil)) := pa_nil.of fun σ H Q ⟨fm, π, F, r, hR, k⟩ => k.val2 (Ex.refl F) (RA.nil hR)
theorem gAs_one {e : E} {x : Expr} (nx : notStar x = true) (h : PE X x (tE X.K pr W cv (evE cl pr e))) : PA X [x] (tAs X.K pr W cv (evAs cl pr (.cons e .nil))) := by
  refine (pa_cons h pa_nil (star_cons nx)).of fun σ H Q ⟨fm, π, F, r, hR, k⟩ => ?_
  unfold evAs at k
  exact ⟨fm, π, F, r, hR, (Go.bind k).imp fun v H1 ⟨F1, r1, d, e1, hd, k1⟩ => k1.val2 (Ex.refl F1) (RA.one hd)⟩
theorem RA.cons {fm : Fm} {π : List Pin} {F : Hp} {σ : St} {r : Ro} {H : Hp} {v : V} {x : RV} {vs : List V} {xs : List RV} (hv : Val X.K F σ v x) (h : RA X.K pr fm π F σ r H vs xs) : RA X.K pr fm π F σ r H (v :: vs) (x :: xs) := by
  obtain ⟨π', k0, e, hR, hl, ha⟩ := h
  refine ⟨π', k0 + 1, e, hR, by rw [List.length_cons, hl, List.length_cons (a := x)], fun k v' x' h1 h2 => ?_⟩
  cases k with
  | zero =>
    simp at h1 h2
    subst h1
    subst h2
    exact .inl hv
  | succ k =>
    rcases ha k v' x' (by simpa using h1) (by simpa using h2) with z | ⟨p, o, d, e1, e2, e3, e4, e5⟩
    · exact .inl z
    · exact .inr ⟨p, o, d, e1, e2, e3, e4, by rw [e5]⟩
theorem RA.put {fm : Fm} {π : List Pin} {F : Hp} {σ : St} {r : Ro} {H : Hp} {v : V} {x : RV} {i : Int} (h : RX X.K fm pr π F σ r H v x) : RA X.K pr fm π F σ r H [v, .int i] [x, .fz (.int i)] := by
  obtain ⟨π', k0, e, hR, hl, ha⟩ := RA.one h
  refine ⟨π', k0, e, hR, rfl, fun k v' x' h1 h2 => ?_⟩
  match k, h1, h2 with
  | 0, h1, h2 => exact ha 0 v' x' h1 h2
  | 1, h1, h2 =>
    cases h1
    cases h2
    exact .inl (show Dp X.K F (.int i) (.int i) from .int i)
  | k + 2, h1, h2 => simp at h1
theorem gAs_lit {e : E} {i : Int} {x y : Expr} (nx : notStar x = true) (ny : notStar y = true) (h : PE X x (tE X.K pr W cv (evE cl pr e))) (hy : PE X y (tC (.int i))) : PA X [x, y] (tAs X.K pr W cv (evAs cl pr (.cons e (.cons (.lit (.int i)) .nil)))) := by
  refine (pa_cons h (pa_cons hy pa_nil (star_cons ny)) (star_cons nx)).of fun σ H Q ⟨fm, π, F, r, hR, k⟩ => ?_
  unfold evAs at k
  exact ⟨fm, π, F, r, hR, (Go.bind k).imp fun v H1 ⟨F1, r1, d, e1, hd, k1⟩ => k1.val2 (Ex.refl F1) (RA.put hd)⟩
theorem evAs_gen {e e2 : E} {es : Es} {r : Ro} (hn : ∀ i, .cons e2 es ≠ Es.cons (.lit (.int i)) .nil) : evAs cl pr (.cons e (.cons e2 es)) r = if dupV e (.cons e2 es) = true then (cpo (evE cl pr e r)).bind fun d r => (evCs cl pr (.cons e2 es) r).bind fun ds r => .ok (.fz d :: ds.map .fz) r
    else (stl (evE cl pr e r)).bind fun x r => (evAs cl pr (.cons e2 es) r).bind fun xs r => .ok (x :: xs) r := by
  conv => lhs; unfold evAs
  split
  · rename_i z; cases z
  · rename_i z; cases z
  · rename_i i z
    injection z with _ z
    exact absurd z (hn i)
  · rename_i _ _ z
    cases z
    rfl
theorem RA.allD {fm : Fm} {π : List Pin} {F : Hp} {σ : St} {r : Ro} {H : Hp} (hR : R X.K fm pr π F σ r H) : ∀ {vs : List V} {ds : List D}, DpAll X.K F vs ds → RA X.K pr fm π F σ r H vs (ds.map RV.fz)
  | _, _, .nil => RA.nil hR
  | _, _, .cons h t => RA.cons (show Val X.K F σ _ (.fz _) from h) (RA.allD hR t)
theorem gAs_dup {e e2 : E} {es : Es} {x : Expr} {xs : List Expr} (hn : ∀ i, .cons e2 es ≠ Es.cons (.lit (.int i)) .nil) (hd : dupV e (.cons e2 es) = true) (nx : notStar x = true) (h : PE X x (tE X.K pr W cv (evE cl pr e))) (hs : PA X xs (tDs X.K pr W cv (evCs cl pr (.cons e2 es)))) : PA X (x :: xs) (tAs X.K pr W cv (evAs cl pr (.cons e (.cons e2 es)))) := by
  refine (pa_cons (pe_C h) hs (star_cons nx)).of fun σ H Q ⟨fm, π, F, r, hR, k⟩ => ?_
  have k : Go X.K pr W cv fm π F σ ((cpo (evE cl pr e r)).bind fun d r => (evCs cl pr (.cons e2 es) r).bind fun ds r => .ok (RV.fz d :: ds.map RV.fz) r) (pA X.K pr fm π σ) Q := by
    rw [evAs_gen hn, hd, if_pos rfl] at k
    exact k
  refine ⟨fm, π, F, r, hR, (Go.bind k).imp fun v H1 ⟨F1, r1, d, e1, ⟨hR1, hd⟩, k1⟩ => ?_⟩
  exact ⟨fm, π, F1, r1, hR1, (Go.bind k1).imp fun vs H2 ⟨F2, r2, ds, e2, ⟨hR2, hds⟩, k2⟩ => k2.val2 (Ex.refl F2) (RA.cons (show Val X.K F2 σ _ (.fz _) from hd.mono e2) (RA.allD hR2 hds))⟩
theorem gAs_cons {e e2 : E} {es : Es} {x : Expr} {xs : List Expr} (hn : ∀ i, .cons e2 es ≠ Es.cons (.lit (.int i)) .nil) (hd : dupV e (.cons e2 es) = false) (nx : notStar x = true) (h : PE X x (tE X.K pr W cv (evE cl pr e))) (hs : PA X xs (tAs X.K pr W cv (evAs cl pr (.cons e2 es)))) : PA X (x :: xs) (tAs X.K pr W cv (evAs cl pr (.cons e (.cons e2 es)))) := by
  refine (pa_cons (pe_S h) hs (star_cons nx)).of fun σ H Q ⟨fm, π, F, r, hR, k⟩ => ?_
  have k : Go X.K pr W cv fm π F σ ((stl (evE cl pr e r)).bind fun x r => (evAs cl pr (.cons e2 es) r).bind fun xs r => .ok (x :: xs) r) (pA X.K pr fm π σ) Q := by
    rw [evAs_gen hn, hd, if_neg Bool.false_ne_true] at k
    exact k
  refine ⟨fm, π, F, r, hR, (Go.bind k).imp fun v H1 ⟨F1, r1, d, e1, ⟨hR1, hd⟩, k1⟩ => ?_⟩
  exact ⟨fm, π, F1, r1, hR1, (Go.bind (Pa := pA X.K pr fm π σ) k1).imp fun vs H2 ⟨F2, r2, ds, e2, hds, k2⟩ => k2.val2 (Ex.refl F2) (RA.cons (hd.mono e2) hds)⟩
theorem gE_tup {es : Es} {xs : List Expr} {j : Nat} {p : Pos} (h : PA X xs (tDs X.K pr W cv (evCs cl pr es))) : PE X (.Tuple xs j p) (tE X.K pr W cv (evE cl pr (.tup es))) := by
  refine (pe_tupF h).of fun σ H Q ⟨fm, π, F, r, hR, k⟩ => ?_
  unfold evE at k
  refine ⟨fm, π, F, r, hR, (Go.bind k).imp fun vs H1 ⟨F1, r1, ds, e1, ⟨hR1, hd⟩, k1⟩ => ?_⟩
  cases hl : lenOk ds.length with
  | false => rw [hl, if_neg Bool.false_ne_true] at k1; exact k1.no.elim
  | true =>
    rw [hl, if_pos rfl] at k1
    refine ⟨by rw [DpAll.length hd]; exact lenOk_le hl, fun p o ho hp => ?_⟩
    have ex : Ex F1 (upd F1 p (.frz o (.tup vs))) := Ex.new (fnew hR1.sub hp)
    exact k1.val2 ex ⟨hR1.newF hp (nfl_tup _ _), .tup (.inl ⟨o, upd_same, ho⟩) (DpAll.mono ex _ _ hd)⟩
theorem gE_lst {es : Es} {xs : List Expr} {p : Pos} (h : PA X xs (tDs X.K pr W cv (evCs cl pr es))) : PE X (.List xs p) (tE X.K pr W cv (evE cl pr (.lst es))) := by
  refine (pe_lst h).of fun σ H Q ⟨fm, π, F, r, hR, k⟩ => ?_
  unfold evE at k
  refine ⟨fm, π, F, r, hR, (Go.bind k).imp fun vs H1 ⟨F1, r1, ds, e1, ⟨hR1, hd⟩, k1⟩ => ?_⟩
  cases hl : lenOk ds.length with
  | false => rw [hl, if_neg Bool.false_ne_true] at k1; exact k1.no.elim
  | true =>
    rw [hl, if_pos rfl] at k1
    exact ⟨by rw [DpAll.length hd]; exact lenOk_le hl, fun p hp => k1.val2 (Ex.refl F1) ⟨p, _, rfl, hR1.newP hp, .lst hd, hR1.parN hp⟩⟩
theorem plainIx_of {y : Expr} (h : nonSlice y = true) : PlainIx y := by
  cases y <;> first | (intro o i; rfl) | cases h
theorem gE_idx (hu : X.A.units + 64 < cLine) {a b : E} {x y : Expr} {p : Pos} (hy : nonSlice y = true) (ha : PE X x (tE X.K pr W cv (evE cl pr a))) (hb : PE X y (tE X.K pr W cv (evE cl pr b))) : PE X (.Subscript x y p) (tE X.K pr W cv (evE cl pr (.idx a b))) := by
  refine (pe_ix (oi_all hu) (pe_S ha) hb (plainIx_of hy)).of fun σ H Q ⟨fm, π, F, r, hR, k⟩ => ?_
  unfold evE at k
  refine ⟨fm, π, F, r, hR, (Go.bind k).imp fun v H1 ⟨F1, r1, u, e1, ⟨hR1, hv⟩, k1⟩ => ?_⟩
  refine ⟨fm, π, F1, r1, hR1, (Go.bind k1).imp fun w H2 ⟨F2, r2, t, e2, ht, k2⟩ => ?_⟩
  cases q1 : rd r2 u with
  | none => simp only [q1] at k2; exact k2.no.elim
  | some dx =>
    cases q2 : rd r2 t with
    | none => simp only [q1, q2] at k2; exact k2.no.elim
    | some dy =>
      simp only [q1, q2] at k2
      obtain ⟨hR2, hw⟩ := RX.rf ht q2
      obtain ⟨z, ez, k3⟩ := k2.lift
      obtain ⟨d, ed, rfl⟩ := Option.map_eq_some_iff.mp ez
      exact ⟨F2, dx, dy, d, hR2.sub, hR2.rf (hv.mono e2) q1, hw, ed, fun v hv => go_fz k3 hR2 hv⟩
/-- an int of a slice -/
theorem go_part {ev : Ro → O RV} {α β : Type} {f : Int → Ro → O α} {P : Hp → Ro → Hp → β → α → Prop} {Q : β → Hp → Prop} {fm : Fm} {π : List Pin} {F : Hp} {σ : St} {r : Ro} {H : Hp} {Q' : Option Int → Hp → Prop} (hR : R X.K fm pr π F σ r H)
    (k : Go X.K pr W cv fm π F σ ((ev r).bind fun x r => (asInt x r).bind f) P Q) (hQ : ∀ i F1 r1 H1, Ex F F1 → R X.K fm pr π F1 σ r1 H1 → Go X.K pr W cv fm π F1 σ (f i r1) P Q → Q' (some i) H1) :
    tPart (tE X.K pr W cv ev) σ H Q' := by
  refine ⟨fm, π, F, r, hR, (Go.bind k).imp fun v H1 ⟨F1, r1, u, e1, hu, k1⟩ => ?_⟩
  cases u with
  | fz d =>
    cases d with
    | int i =>
      obtain ⟨hR1, hd⟩ := hu
      cases hd
      exact ⟨i, rfl, hQ i F1 r1 H1 e1 hR1 k1⟩
    | _ => exact k1.no.elim
  | _ => exact k1.no.elim
theorem go_cutend {fm : Fm} {π : List Pin} {F F3 : Hp} {σ : St} {r3 : Ro} {H3 : Hp} {v : V} {u : RV} {Q : VK} {lo hi : Option Int} (hv : Val X.K F σ v u) (e : Ex F F3) (hR3 : R X.K fm pr π F3 σ r3 H3)
    (k3 : Go X.K pr W cv fm π F3 σ (match rd r3 u with | some dx => O.lift (cutop dx lo hi) r3 | none => .no) (pX X.K pr fm π σ) Q) : ∃ F dx z, Ex F H3 ∧ RF X.K F H3 v dx ∧ cutop dx lo hi = some z ∧ Res X.K F H3 Q z := by
  cases q1 : rd r3 u with
  | none => simp only [q1] at k3; exact k3.no.elim
  | some dx =>
    simp only [q1] at k3
    obtain ⟨z, ez, k4⟩ := k3.lift
    exact ⟨F3, dx, z, hR3.sub, hR3.rf (hv.mono e) q1, ez, res_of hR3 k4 (cutop_npk ez)⟩
theorem gE_cut {a lo hi : E} {x l h : Expr} {p p2 : Pos} (ha : PE X x (tE X.K pr W cv (evE cl pr a))) (hl : PE X l (tE X.K pr W cv (evE cl pr lo))) (hh : PE X h (tE X.K pr W cv (evE cl pr hi))) :
    PE X (.Subscript x (.Slice (some l) (some h) none p2) p) (tE X.K pr W cv (evE cl pr (.cut a lo hi))) := by
  refine (pe_slice os_all (pe_S ha) (po_some hl) (po_some hh)).of fun σ H Q ⟨fm, π, F, r, hR, k⟩ => ?_
  unfold evE at k
  refine ⟨fm, π, F, r, hR, (Go.bind k).imp fun v H1 ⟨F1, r1, u, e1, ⟨hR1, hv⟩, k1⟩ => ?_⟩
  exact go_part hR1 k1 fun i F2 r2 H2 e2 hR2 k2 => go_part hR2 k2 fun j F3 r3 H3 e3 hR3 k3 => go_cutend hv (e2.trans e3) hR3 k3
theorem gE_cutL {a lo : E} {x l : Expr} {p p2 : Pos} (ha : PE X x (tE X.K pr W cv (evE cl pr a))) (hl : PE X l (tE X.K pr W cv (evE cl pr lo))) :
    PE X (.Subscript x (.Slice (some l) none none p2) p) (tE X.K pr W cv (evE cl pr (.cutL a lo))) := by
  refine (pe_slice os_all (pe_S ha) (po_some hl) po_none).of fun σ H Q ⟨fm, π, F, r, hR, k⟩ => ?_
  unfold evE at k
  refine ⟨fm, π, F, r, hR, (Go.bind k).imp fun v H1 ⟨F1, r1, u, e1, ⟨hR1, hv⟩, k1⟩ => ?_⟩
  exact go_part hR1 k1 fun i F2 r2 H2 e2 hR2 k2 => go_cutend hv e2 hR2 k2
theorem gE_cutH {a hi : E} {x h : Expr} {p p2 : Pos} (ha : PE X x (tE X.K pr W cv (evE cl pr a))) (hh : PE X h (tE X.K pr W cv (evE cl pr hi))) :
    PE X (.Subscript x (.Slice none (some h) none p2) p) (tE X.K pr W cv (evE cl pr (.cutH a hi))) := by
  refine (pe_slice os_all (pe_S ha) po_none (po_some hh)).of fun σ H Q ⟨fm, π, F, r, hR, k⟩ => ?_
  unfold evE at k
  refine ⟨fm, π, F, r, hR, (Go.bind k).imp fun v H1 ⟨F1, r1, u, e1, ⟨hR1, hv⟩, k1⟩ => ?_⟩
  exact go_part (Q' := fun o H3 => ∃ F dx z, Ex F H3 ∧ RF X.K F H3 v dx ∧ cutop dx none o = some z ∧ Res X.K F H3 Q z) hR1 k1 fun i F2 r2 H2 e2 hR2 k2 => go_cutend hv e2 hR2 k2
theorem gE_cutA {a : E} {x : Expr} {p p2 : Pos} (ha : PE X x (tE X.K pr W cv (evE cl pr a))) :
    PE X (.Subscript x (.Slice none none none p2) p) (tE X.K pr W cv (evE cl pr (.cutA a))) := by
  refine (pe_slice os_all (pe_S ha) po_none po_none).of fun σ H Q ⟨fm, π, F, r, hR, k⟩ => ?_
  unfold evE at k
  exact ⟨fm, π, F, r, hR, (Go.bind k).imp fun v H1 ⟨F1, r1, u, e1, ⟨hR1, hv⟩, k1⟩ => go_cutend hv (Ex.refl F1) hR1 k1⟩
theorem gE_rev {a : E} {x : Expr} {j : Nat} {p p1 p2 p3 : Pos} (ha : PE X x (tE X.K pr W cv (evE cl pr a))) :
    PE X (.Subscript x (.Slice none none (some (.UnaryOp .USub (.Constant (.int 1) j p1) p2)) p3) p) (tE X.K pr W cv (evE cl pr (.rev a))) := by
  refine (pe_revB (pe_S ha)).of fun σ H Q ⟨fm, π, F, r, hR, k⟩ => ?_
  unfold evE at k
  refine ⟨fm, π, F, r, hR, (Go.bind k).imp fun v H1 ⟨F1, r1, u, e1, ⟨hR1, hv⟩, k1⟩ => ?_⟩
  cases q1 : rd r1 u with
  | none => simp only [q1] at k1; exact k1.no.elim
  | some dx =>
    simp only [q1] at k1
    cases dx with
    | list xs =>
      obtain ⟨a, vs, rfl, h1, h2⟩ := (hR1.rf hv q1).list hR1.sub
      exact ⟨a, vs, rfl, .inl ⟨h1, fun p hp => k1.val2 (Ex.refl F1) ⟨p, _, rfl, hR1.newP hp, .lst (DpAll.reverse h2), hR1.parN hp⟩⟩⟩
    | tuple xs =>
      obtain ⟨a, vs, rfl, h1, h2⟩ := (hR1.rf hv q1).tup hR1.sub
      have q := res_of hR1 k1 (fun _ h => by cases h)
      exact ⟨a, vs, rfl, .inr ⟨h1.sq, fun p o ho hp => q.2 p o _ _ ho rfl hp (DpAll.reverse h2)⟩⟩
    | _ => exact k1.no.elim
/-! calls -/
theorem gE_call (g : Good cl cv N sc X) (tk : L2N.Takes X W) {f : String} {es : Es} {x : Str} {y : Expr} {ys : List Expr} {p pos : Pos} (hx : x = Str.ofString f) (hg : glB sc x = true) (ho : okName x = true) (ny : notStar y = true) (hpl : (backTo pos (starEach ys X.env)).any (·.1) = false) (ha : PA X (y :: ys) (tAs X.K pr W cv (evAs cl pr es))) :
    PE X (.Call (.Name x p) (y :: ys) [] pos) (tE X.K pr W cv (evE cl pr (.call f es))) := by
  subst hx
  cases hcl : cl f with
  | none =>
    refine ⟨fun pins s σ H Q I ⟨fm, π, F, r, hR, k⟩ => ?_⟩
    unfold evE at k
    simp only [hcl] at k
    exact k.no.elim
  | some fn =>
    obtain ⟨a, fd, ps, j, hF, hr, hm, hk, hb, hl⟩ := g.fns f fn hcl
    refine (pe_callS hF hr (g.gl hg) hm hk hb (fun σ => L2N.passAt tk σ) ha (okName_of ho).1 (star_cons ny) hpl).of fun σ H Q ⟨fm, π, F, r, hR, k⟩ => ?_
    unfold evE at k
    simp only [hcl] at k
    refine ⟨fm, π, F, r, hR, (Go.bind k).imp fun vs H1 ⟨F1, r1, xs, e1, hA, k1⟩ => ?_⟩
    cases hargs : argsOf r1 xs with
    | none => simp only [hargs] at k1; exact k1.no.elim
    | some as =>
      simp only [hargs] at k1
      cases hn : nodupB (pkOwn r1 xs) with
      | false => rw [hn, if_neg Bool.false_ne_true] at k1; exact k1.no.elim
      | true =>
        rw [hn, if_pos rfl] at k1
        cases hf : fn as with
        | none => simp only [hf] at k1; exact k1.no.elim
        | some z =>
          obtain ⟨out, outs⟩ := z
          simp only [hf] at k1
          refine call_ok hA hargs hn hf ((args_at hargs).1.trans (hl _ _ hf)) ?_
          cases out with
          | ex c => exact fun F' H' e h => k1 F' H' e h
          | val b =>
            cases b with
            | fz d => exact fun v F' H' e h => k1 v F' H' e h
            | ow d => exact fun v F' H' e h => k1 v F' H' e h
end
end Rk

/-! Rk, part Hr: list(reversed(x)). -/
namespace Rk
open PySem PySem.Spec PyProof.Rows L2 RT
section
variable {prog : Program} {w : World} {A : Around} {E : Value → Shared → Prop} {s : Shared}
theorem extend_rev {R : Result → Shared → Prop} {it l S : Addr} {items : Array Value} {c₀ : Nat} (res : Value) (hh : A.handled = none) (hit : s.heap.IsRevIter it l ((items.size : Int) - 1)) (hl : s.heap.IsList l items) (hne : l ≠ it) (hn : items.size ≤ sizeLine)
    (hSi : S ≠ it) (hSl : S ≠ l) (hS : s.heap.get? S = some { cls := .type "list", data := .seq #[] c₀ })
    (hR : ∀ (h' : Heap) (tk : Nat) (acc : Array Value) (c' : Nat), (∀ b o, b ≠ it → b ≠ S → s.heap.get? b = some o → h'.get? b = some o) → h'.get? S = some { cls := .type "list", dict := none, data := .seq acc c', slots := #[] } → ItemsOf (fun i v => items[items.size - 1 - i]? = some v) acc items.size →
      R (.ok (.ret res)) { s with heap := h', toks := tk }) :
    wpAny (model prog w) A.in1 (Builtin.List.listExtendWith (.ref S) (.ref it) res)
      (fun fin s' => match fin with | .done f => R (.ok f) s' | .again c' => c'.quiet = true ∧ codeAny (model prog w) A c' R s') (fun e s' => R (.error e) s') s := by
  have W := (Walks.listRev (prog := prog) (w := w) (A := A.in1) hh it l hne items).toS
  have hSf : S ∉ [it, l] := by simp only [List.mem_cons, List.not_mem_nil, or_false, not_or]; exact ⟨hSi, hSl⟩
  have hT : s.TypeIs (.ref it) "list_reverseiterator" := hit.typeIs
  have h1 : Builtin.List.listSameRef (.ref S) (.ref it) = false := by simp [Builtin.List.listSameRef, hSi]
  unfold Builtin.List.listExtendWith
  refine wpAny_bind (wpAny_typeOf hT ?_)
  rw [if_neg (by rw [h1]; decide)]
  refine wpAny_bind (wpAny_pyIter_revIter hit ?_)
  refine wpAny_bind (wpAny_holding ?_)
  unfold Builtin.List.listLengthHint
  refine wpAny_bind (wpAny_specialOf hT nolen_lri ?_)
  show wpAny _ A.in1 (specialOf (Value.ref it) (Str.ofString "__length_hint__") >>= _) _ _ _
  refine wpAny_bind (wpAny_specialOf hT hint_lri ?_)
  generalize hid : ("list_reverseiterator.__length_hint__" : String) = id0
  wp_delta
  rw [show splitId id0 = some ("list_reverseiterator", "__length_hint__") from by subst hid; decide +kernel]
  subst hid
  refine wpAny_bind (wpAny_isInstance (b := true) hT (by rw [isSubtype_type]; kernel_rfl) ?_)
  refine wpAny_pure ?_
  rw [if_neg (by decide)]
  have e0 : ((items.size : Nat) : Int) - 1 - ((0 : Nat) : Int) = (items.size : Int) - 1 := by omega
  refine wpAny_pure ⟨plainId_quiet F.plain_extend_loop _, codeAny_extend_loopS W hn _ hSf _ items.size 0 _ _ _ rfl (Nat.zero_le _) ⟨Nat.zero_le _, by rw [e0]; exact hit, hl⟩ hS (ItemsOf.nil _) fun s' acc' c' hm hS' hacc => ?_⟩
  rw [Moved.eq_with hm]
  refine hR s'.heap s'.toks acc' c' (fun b o hb hb2 e => hm.heap b o (fun hmem => ?_) e) hS' hacc
  rcases List.mem_cons.mp hmem with e' | hmem
  · exact hb2 e'
  · exact hb (List.mem_singleton.mp hmem)
theorem call_list_rev {it l : Addr} {items : Array Value} {Q : Value → Shared → Prop} (hh : A.handled = none) (hit : s.heap.IsRevIter it l ((items.size : Int) - 1)) (hl : s.heap.IsList l items) (hne : l ≠ it) (hn : items.size ≤ sizeLine)
    (hQ : ∀ (h' : Heap) (tk : Nat) (acc : Array Value) (c' : Nat), (∀ b o, b ≠ it → s.heap.get? b = some o → h'.get? b = some o) → h'.get? s.heap.objs.size = some { cls := .type "list", dict := none, data := .seq acc c', slots := #[] } → ItemsOf (fun i v => items[items.size - 1 - i]? = some v) acc items.size →
      Q (.ref s.heap.objs.size) { s with heap := h', toks := tk }) :
    wpAny (model prog w) A (call (.type "list") [.ref it]) Q E s := by
  obtain ⟨oi, hoi, _⟩ := id hit
  obtain ⟨ol, hol, _⟩ := id hl
  have hSi : s.heap.objs.size ≠ it := Nat.ne_of_gt (Heap.lt_size hoi)
  have hSl : s.heap.objs.size ≠ l := Nat.ne_of_gt (Heap.lt_size hol)
  refine callType_codes (Q₁ := fun obj s₁ => obj = .ref s.heap.objs.size ∧ s₁ = { s with heap := s.heap.push { cls := .type "list", data := .seq #[] } }) F.called_list (F.typeCall_list_1 _) F.entry_list_init
    (code_list_new _ ⟨rfl, rfl⟩) fun obj s₁ h₁ => ?_
  obtain ⟨rfl, rfl⟩ := h₁
  have hS : (s.heap.push { cls := .type "list", data := .seq #[] }).get? s.heap.objs.size = some { cls := .type "list", data := .seq #[] } := Heap.get?_push_size _ rfl
  refine ⟨⟨_, hS, rfl⟩, F.args_list_init_2 _ _, ?_⟩
  show wpAny _ A.in1.in1 (do let old ← Builtin.List.listItems (.ref s.heap.objs.size); Builtin.List.listUpdate (.ref s.heap.objs.size) (fun _ => #[]); letGo old.toList.reverse; Builtin.List.listExtendWith (.ref s.heap.objs.size) (.ref it) .none) _ _ _
  refine wpAny_bind ?_
  unfold Builtin.List.listItems
  refine wpAny_bind (wpAny_seqItems hS rfl (wpAny_pure ?_))
  show wpAny _ A.in1.in1 (updateSeq s.heap.objs.size (fun _ => #[]) >>= fun _ => letGo (#[] : Array Value).toList.reverse >>= fun _ => Builtin.List.listExtendWith (.ref s.heap.objs.size) (.ref it) .none) _ _ _
  refine wpAny_bind (wpAny_updateSeq hS rfl ?_)
  have hS₂ := Heap.get?_update_self (Obj.mapSeq (fun _ => (#[] : Array Value))) hS rfl
  have oth : ∀ b o, b ≠ s.heap.objs.size → (s.heap.push { cls := .type "list", data := .seq #[] }).get? b = some o → ((s.heap.push { cls := .type "list", data := .seq #[] }).update s.heap.objs.size (Obj.mapSeq (fun _ => (#[] : Array Value)))).get? b = some o :=
    fun b o hb e => (Heap.get?_update_other _ _ (Ne.symm hb)).trans e
  refine wpAny_bind (wpAny_letGo ?_)
  refine extend_rev (A := A.in1) .none hh (hit.at fun o e => oth _ _ (Ne.symm hSi) (Heap.get?_push_of_some _ e)) (hl.at fun o e => oth _ _ (Ne.symm hSl) (Heap.get?_push_of_some _ e)) hne hn hSi hSl hS₂ fun h' tk acc c' hk hS' hacc => ?_
  refine ⟨rfl, hQ h' tk acc c' (fun b o hb e => ?_) hS' hacc⟩
  have hb2 : b ≠ s.heap.objs.size := Nat.ne_of_lt (Heap.lt_size e)
  exact hk b o hb hb2 (oth b o hb2 (Heap.get?_push_of_some _ e))
end
def tListRev (K : PySem.W.Frag) (te : TE) : TE := fun σ H Q => te σ H fun v H1 => ∃ (a : Addr) (xs : List V), v = .ref a ∧ SqL K H1 a xs ∧ ∀ q, H1 q = none → Q (.ref q) (upd H1 q (.lst xs.reverse))
section
variable {X : Cx}
theorem pe_listRev {e : Expr} {te : TE} {p p2 pos pos2 : Pos} (hc : X.calm = true) (hg : Gl X "list") (hm : X.mg "list" = none) (hg2 : Gl X "reversed") (hm2 : X.mg "reversed" = none) (he : PE X e te)
    (hs : starEach [e] X.env = (false, eval e X.env) :: starEach [] X.env := by rfl)
    (hs2 : starEach [.Call (.Name "reversed" p2) [e] [] pos2] X.env = (false, eval (.Call (.Name "reversed" p2) [e] [] pos2) X.env) :: starEach [] X.env := by rfl) :
    PE X (.Call (.Name "list" p) [.Call (.Name "reversed" p2) [e] [] pos2] [] pos) (tListRev X.K te) := by
  refine ⟨fun pins s σ H Q I h => ?_⟩
  refine Call_ (ld_blt I hg hm boot_list (PyProof.Rows.callWith_type1 (args_cons (Call_ (ld_blt I hg2 hm2 PyProof.Rows.boot_reversed (PyProof.Rows.callWith_type1 (args_cons (thn (he.run pins s σ H _ I h) fun u s1 ⟨v, H1, I1, r1, q1⟩ => args_nil ?_) hs) hs rfl))) hs2) hs2 rfl))
  obtain ⟨a, xs, ev, hq, q⟩ := q1
  subst ev
  obtain rfl : u = Value.ref a := r1
  obtain ⟨its, rv, p', hz⟩ := I1.list hq
  refine call_reversed_list p'.isList (args_nil ?_)
  have k0 : ∀ b o, s1.heap.get? b = some o → (s1.heap.push (revObj a ((its.toArray.size : Int) - 1))).get? b = some o := fun b o e => Heap.get?_push_of_some _ e
  have hl := p'.isList
  obtain ⟨ol, hol, _⟩ := id hl
  have hne : a ≠ s1.heap.objs.size := Nat.ne_of_lt (Heap.lt_size hol)
  have hn : its.toArray.size ≤ sizeLine := by rw [List.size_toArray, ← rv.length]; exact hz
  refine call_list_rev (s := { s1 with heap := s1.heap.push (revObj a ((its.toArray.size : Int) - 1)) }) (I1.ok.hd hc) ⟨_, Heap.get?_push_size _ rfl, rfl, rfl⟩ (hl.push _) hne hn fun h' tk acc c' hk hS hi => ?_
  have k1 : ∀ b o, s1.heap.get? b = some o → h'.get? b = some o := fun b o e => hk b o (Nat.ne_of_lt (Heap.lt_size e)) (k0 b o e)
  have big : s1.heap.objs.size ≤ (s1.heap.push (revObj a ((its.toArray.size : Int) - 1))).objs.size := by
    rw [Heap.size_push]
    exact Nat.le_succ _
  refine ⟨.ref _, upd H1 _ (.lst xs.reverse), I1.laid (t' := tk) k1 big (show ObjOk X.prog X.w _ _ _ (.lst xs.reverse) from ⟨by rw [List.length_reverse]; exact hz, acc.toList, c', vals_rev rv hi, ?_⟩), rfl, q _ (I1.hok.fresh big)⟩
  rw [Array.toArray_toList]
  exact hS
end
/-- len(set(xs)) of ints -/
def tLenSet (K : PySem.W.Frag) (ta : TE) : TE := fun σ H Q => ta σ H fun x H1 => ∃ (l : Addr) (ns : List Int), x = .ref l ∧ SqL K H1 l (ns.map V.int) ∧ ns.length ≤ 4000 ∧ Q (.int ((PyProof.Rows.firstMet (fun i => ns.getD i 0) ns.length).length : Nat)) H1
theorem firstMet_len (f : Nat → Int) : ∀ n, (PyProof.Rows.firstMet f n).length ≤ n
  | 0 => Nat.le_refl 0
  | n + 1 => by
    have ih := firstMet_len f n
    rw [PyProof.Rows.firstMet_succ]
    unfold PyProof.Rows.step_dedup
    split
    · omega
    · rw [List.length_append]
      simp
      omega
theorem pe_lenSet {X : Cx} {a : Expr} {ta : TE} {p p2 q pos : Pos} (hg : Gl X "len") (hm : X.mg "len" = none) (hg2 : Gl X "set") (hm2 : X.mg "set" = none) (ha : PE X a ta) (hc : X.calm = true)
    (na : starEach [a] X.env = (false, eval a X.env) :: starEach [] X.env := by rfl) : PE X (.Call (.Name "len" p) [.Call (.Name "set" p2) [a] [] q] [] pos) (tLenSet X.K ta) := by
  refine ⟨fun pins s σ H Q I h => ?_⟩
  refine Call_ (ld_blt I hg hm boot_len ?_)
  refine PyProof.Rows.callWith_builtin1 (PyProof.Rows.args_cons ?_ rfl) rfl rfl
  refine Call_ (ld_blt I hg2 hm2 boot_set ?_)
  refine PyProof.Rows.callWith_type1 (PyProof.Rows.args_cons (thn (ha.run pins s σ H _ I h) fun v s1 ⟨x, H1, I1, r1, q1⟩ => PyProof.Rows.args_nil ?_) na) na rfl
  obtain ⟨l, ns, rfl, hq, hl, q1⟩ := q1
  cases r1
  obtain ⟨its, r, pl, hz⟩ := I1.list hq
  have hlen : its.toArray.size = ns.length := by rw [List.size_toArray, ← r.length, List.length_map]
  have hfm := firstMet_len (fun i => ns.getD i 0) ns.length
  refine call_set_list (I1.ok.hd hc) pl.isList (by simpa using RZ.intsAre_vals r) (by rw [hlen]; unfold scanBound; omega) fun h' tk hS hk => ?_
  refine PyProof.Rows.args_nil ?_
  rw [hlen] at hS
  obtain ⟨o, es, ep, t, ho, hex, hd, _, _, _, hf, hn⟩ := hS
  have I2 : Inv X pins σ H1 { s1 with heap := h', toks := tk } := I1.kept fun b o e => hk b o (Heap.lt_size e) e
  exact call_len_set ho hex hd hf (by rw [hn] <;> omega) ⟨.int _, H1, I2.tok _, ⟨_, by rw [hn]⟩, q1⟩
section
variable {X : Cx} {pr : List Nat} {W : WX} {cv : String → Value} {cl : Cl} {N : List Str} {sc : Scope}
theorem gE_revC (g : Good cl cv N sc X) {a : E} {x : Expr} {p p2 pos pos2 : Pos} (nx : notStar x = true) (h1 : glB sc (Str.ofString "list") = true) (h2 : glB sc (Str.ofString "reversed") = true) (ha : PE X x (tE X.K pr W cv (evE cl pr a))) :
    PE X (.Call (.Name (Str.ofString "list") p) [.Call (.Name (Str.ofString "reversed") p2) [x] [] pos2] [] pos) (tE X.K pr W cv (evE cl pr (.revC a))) := by
  refine (pe_listRev (p := p) (p2 := p2) (pos := pos) (pos2 := pos2) g.calm (g.gl h1) (g.blt "list" (by decide)) (g.gl h2) (g.blt "reversed" (by decide)) (pe_S ha) (star_cons nx) rfl).of fun σ H Q ⟨fm, π, F, r, hR, k⟩ => ?_
  unfold evE at k
  refine ⟨fm, π, F, r, hR, (Go.bind k).imp fun v H1 ⟨F1, r1, u, e1, ⟨hR1, hv⟩, k1⟩ => ?_⟩
  cases q1 : rd r1 u with
  | none => simp only [q1] at k1; exact k1.no.elim
  | some dx =>
    simp only [q1] at k1
    cases dx with
    | list xs =>
      obtain ⟨a, vs, rfl, h1, h2⟩ := (hR1.rf hv q1).list hR1.sub
      exact ⟨a, vs, rfl, h1, fun p hp => k1.val2 (Ex.refl F1) ⟨p, _, rfl, hR1.newP hp, .lst (DpAll.reverse h2), hR1.parN hp⟩⟩
    | _ => exact k1.no.elim
theorem gE_lset (g : Good cl cv N sc X) {a : E} {x : Expr} {p p2 pos pos2 : Pos} (nx : notStar x = true) (h1 : glB sc (Str.ofString "len") = true) (h2 : glB sc (Str.ofString "set") = true) (ha : PE X x (tE X.K pr W cv (evE cl pr a))) :
    PE X (.Call (.Name (Str.ofString "len") p) [.Call (.Name (Str.ofString "set") p2) [x] [] pos2] [] pos) (tE X.K pr W cv (evE cl pr (.lset a))) := by
  refine (pe_lenSet (p := p) (p2 := p2) (pos := pos) (q := pos2) (g.gl h1) (g.blt "len" (by decide)) (g.gl h2) (g.blt "set" (by decide)) (pe_S ha) g.calm (star_cons nx)).of fun σ H Q ⟨fm, π, F, r, hR, k⟩ => ?_
  unfold evE at k
  refine ⟨fm, π, F, r, hR, (Go.bind k).imp fun v H1 ⟨F1, r1, u, e1, ⟨hR1, hv⟩, k1⟩ => ?_⟩
  cases q1 : rd r1 u with
  | none => simp only [q1] at k1; exact k1.no.elim
  | some dx =>
    simp only [q1] at k1
    obtain ⟨z, ez, k2⟩ := k1.lift
    cases dx with
    | list xs =>
      obtain ⟨a, vs, rfl, h1, h2⟩ := (hR1.rf hv q1).list hR1.sub
      unfold lsetop at ez
      simp only at ez
      cases hi : intsD xs with
      | none => rw [hi] at ez; cases ez
      | some ns =>
        rw [hi] at ez
        simp only at ez
        split at ez
        · rename_i hle
          cases ez
          have q := res_of hR1 k2 (fun _ h => by cases h)
          exact ⟨a, ns, rfl, by rw [← (DpAll.ints h2 hi).1]; exact h1, hle, q.1 _ (.int _)⟩
        · cases ez
    | _ => cases ez
end
end Rk

/-! Rk, part I: built-ins, isinstance, methods. -/
namespace Rk
open PySem PySem.Spec PyProof.Rows L2
theorem biop_npk {b : BI} {ds : List D} {z : RV} (e : biop b ds = some z) : ∀ i, z ≠ .pk i := by
  intro i h
  subst h
  unfold biop at e
  split at e <;> first | cases e | (simp at e; done) | skip
  all_goals
    obtain ⟨ns, _, e⟩ := Option.bind_eq_some_iff.mp e
    cases ns <;> cases e
/-! ### any of whole numbers; dict of a list of pairs -/
section
variable {X : Cx}
theorem truth_intsK {prog : Program} {w : World} {A : Around} {ns : List Int} {its : List Value} (e : Vals (ns.map V.int) its) :
    TruthOf prog w A (fun i v => its.toArray[i]? = some v) (fun i => ns.getD i 0 != 0) := fun i v s Q E hv hq => by
  have hv' : its[i]? = some v := by simpa using hv
  have go : ∀ {ns : List Int} {its : List Value} {i : Nat}, Vals (ns.map V.int) its → its[i]? = some v → ∃ t, v = .int (ns.getD i 0) t := by
    intro ns
    induction ns with
    | nil =>
      intro its i h hv
      cases h
      simp at hv
    | cons n ns ih =>
      intro its i h hv
      rw [List.map_cons] at h
      cases h with
      | cons h t =>
        cases i with
        | zero =>
          obtain ⟨tt, rfl⟩ := h
          exact ⟨tt, (Option.some.inj hv).symm⟩
        | succ i => exact ih t hv
  obtain ⟨t, rfl⟩ := go e hv'
  exact truthy_int hq
theorem any_rangeI : ∀ ns : List Int, (List.range ns.length).any (fun i => ns.getD i 0 != 0) = ns.any fun i => i != 0
  | [] => rfl
  | b :: bs => by
    rw [List.length_cons, List.range_succ_eq_map, List.any_cons, List.any_map, List.any_cons, ← any_rangeI bs]
    all_goals rfl
theorem cb_anyI (hc : X.calm = true) : CallR X (.builtin "any") (rSemC X.K (biop .anyI)) := by
  intro pins s σ H vs us Q I r h
  obtain ⟨F, ds, z, ex, hv, e, q⟩ := h
  match ds, e with
  | [.list xs], e =>
    obtain ⟨ns, e1, rfl⟩ := Option.map_eq_some_iff.mp (show (intsD xs).map (fun ns => RV.fz (.bool (ns.any fun i => i != 0))) = some z from e)
    obtain ⟨v, rfl, hw⟩ := hv.one
    obtain ⟨a, ws, rfl, h1, h2⟩ := hw.list ex
    obtain ⟨rfl, _⟩ := DpAll.ints h2 e1
    obtain ⟨its, rv, hl, _⟩ := I.list h1
    rw [Vals.ref1 r]
    refine call_any_walk (iter_any hl.isList fun s₂ e2 st hne => ?_)
    subst e2
    refine ⟨_, _, _, _, _, _, _, rfl, Walks.list (A := X.A.in1) (I.ok.hd hc) _ a hne its.toArray, st, truth_intsK rv, fun h' tk hk => ?_⟩
    refine ⟨.bl _, H, I.kept fun b o eo => hk b o (fun hmem => ?_) (Heap.get?_push_of_some _ eo), ?_, q.1 _ (.bl _)⟩
    · rcases List.mem_cons.mp hmem with e1 | hmem
      · exact absurd (e1 ▸ Heap.lt_size eo) (Nat.lt_irrefl _)
      · cases hmem
    · show Value.bool _ = Value.bool _
      rw [← any_rangeI, List.size_toArray, ← rv.length, List.length_map]
theorem stored_rel {K : Frag} {F : Hp} {i : Int} {t : Value} {x : V} {d : D} (rx : RelV x t) (hx : Dp K F x d) {vs : List (Int × Value)} {ds : List (D × D)}
    (h2 : Paired (fun (q : Int × Value) (d : D × D) => d.1 = .int q.1 ∧ ∃ v, RelV v q.2 ∧ Dp K F v d.2) vs ds) : Paired (fun (q : Int × Value) (d : D × D) => d.1 = .int q.1 ∧ ∃ v, RelV v q.2 ∧ Dp K F v d.2) (stored vs i t) (dPut ds (.int i) d) := by
  have hany : (vs.any fun kv => decide (kv.1 = i)) = (dFind ds (.int i)).isSome := by
    rw [dFind_any]
    have go : ∀ {vs : List (Int × Value)} {ds : List (D × D)}, Paired (fun (q : Int × Value) (d : D × D) => d.1 = .int q.1 ∧ ∃ v, RelV v q.2 ∧ Dp K F v d.2) vs ds → (vs.any fun kv => decide (kv.1 = i)) = ds.any fun p => PyData.eqv p.1 (.int i) := by
      intro vs ds z
      induction z with
      | nil => rfl
      | cons h t ih => rw [List.any_cons, List.any_cons, ih, h.1, eqv_int2]
    exact go h2
  unfold stored dPut
  rw [hany]
  by_cases c : (dFind ds (.int i)).isSome = true
  · rw [if_pos c, if_pos c]
    exact put_rel (k := i) (fun kv => if kv.1 = i then (kv.1, t) else kv) (fun q hq e he => by
      rw [if_pos hq]
      exact ⟨he.1, x, rx, hx⟩) (fun q hq => if_neg hq) h2 fun q e he => by rw [he.1, eqv_int2]
  · rw [if_neg c, if_neg c]
    exact Paired.snoc h2 ⟨rfl, x, rx, hx⟩
theorem merged_rel {K : Frag} {F : Hp} : ∀ {prs : List (Int × Value)} {ds : List (D × D)}, Paired (fun (q : Int × Value) (d : D × D) => d.1 = .int q.1 ∧ ∃ v, RelV v q.2 ∧ Dp K F v d.2) prs ds →
    ∀ {vs : List (Int × Value)} {es : List (D × D)}, Paired (fun (q : Int × Value) (d : D × D) => d.1 = .int q.1 ∧ ∃ v, RelV v q.2 ∧ Dp K F v d.2) vs es → Paired (fun (q : Int × Value) (d : D × D) => d.1 = .int q.1 ∧ ∃ v, RelV v q.2 ∧ Dp K F v d.2) (merged vs prs) (mergeD es ds)
  | _, _, .nil, _, _, h => h
  | q :: _, d :: _, .cons hq t, vs, es, h => by
    obtain ⟨e1, v, rv, hv⟩ := hq
    show Paired _ (merged (stored vs q.1 q.2) _) (mergeD (dPut es d.1 d.2) _)
    rw [e1]
    exact merged_rel t (stored_rel rv hv h)
theorem mergeD_len (ds : List (D × D)) : ∀ es : List (D × D), (mergeD es ds).length ≤ es.length + ds.length := by
  induction ds with
  | nil => intro es; exact Nat.le_refl _
  | cons d ds ih =>
    intro es
    have h1 := ih (dPut es d.1 d.2)
    have h2 := dPut_len es d.1 d.2
    show (mergeD (dPut es d.1 d.2) ds).length ≤ _
    rw [List.length_cons]
    omega
theorem pairsD_len : ∀ {xs : List D} {ds : List (D × D)}, pairsD xs = some ds → ds.length = xs.length
  | [], _, h => by cases h; rfl
  | x :: xs, ds, h => by
    unfold pairsD at h
    split at h
    · rename_i e0
      cases e0
    · rename_i e
      obtain ⟨ds', e1, rfl⟩ := Option.map_eq_some_iff.mp h
      cases e
      rw [List.length_cons, List.length_cons, pairsD_len e1]
    · cases h
theorem pairs_int {pins : List (Addr × Obj)} {s : Shared} {σ : L2.St} {H F : Hp} (I : Inv X pins σ H s) (ex : Ex F H) : ∀ {xs : List D} {ws : List V} {ds : List (D × D)}, DpAll X.K F ws xs → pairsD xs = some ds →
    ∃ (ps : List Addr) (trs : List ((Int × Value) × Value)), ws = ps.map V.ref ∧ trs.length = ps.length ∧ Paired (fun (q : Int × Value) (d : D × D) => d.1 = .int q.1 ∧ ∃ v, RelV v q.2 ∧ Dp X.K F v d.2) (trs.map (·.1)) ds ∧
      ∀ (j : Nat) (t : (Int × Value) × Value), trs[j]? = some t → ∃ b, ps[j]? = some b ∧ PairAt s.heap b t.2 t.1.2 ∧ ∃ tt, t.2 = .int t.1.1 tt
  | [], ws, ds, h, e => by
    cases e
    cases h
    exact ⟨[], [], rfl, rfl, .nil, fun j t z => by simp at z⟩
  | x :: xs, ws, ds, h, e => by
    unfold pairsD at e
    split at e
    · rename_i e0
      cases e0
    · rename_i i y r q
      obtain ⟨ds', e1, rfl⟩ := Option.map_eq_some_iff.mp e
      cases q
      cases h with
      | cons hw hws =>
        obtain ⟨ps, trs, rfl, hl, rel, hp⟩ := pairs_int I ex hws e1
        cases hw with
        | tup hs ha =>
          obtain ⟨its, rv, ht, _⟩ := I.tuple (ex_q ex hs).sq
          cases ha with
          | cons ha1 ha2 =>
            cases ha2 with
            | cons ha2 ha3 =>
              cases ha3
              cases ha1
              obtain ⟨u, yv, ei, ru, ry⟩ := vals2 rv
              subst ei
              obtain ⟨tt, rfl⟩ := ru
              refine ⟨_ :: ps, ((i, yv), .int i tt) :: trs, rfl, by rw [List.length_cons, List.length_cons, hl], .cons ⟨rfl, _, ry, ha2⟩ rel, fun j t z => ?_⟩
              cases j with
              | zero =>
                cases (Option.some.inj z)
                exact ⟨_, rfl, .inl ht, tt, rfl⟩
              | succ j => exact hp j t z
    · cases e
theorem cb_dict (hcm : X.calm = true) : CallR X (.type "dict") (rSemC X.K (biop .toDict)) := by
  intro pins s σ H vs us Q I r h
  obtain ⟨F, ds, z, ex, hv, e, q⟩ := h
  match ds, e with
  | [.list xs], e =>
    have e : (if lenOk xs.length then (pairsD xs).map fun ds => RV.fr (.dict (mergeD [] ds)) else none) = some z := e
    by_cases hlo : lenOk xs.length = true
    · rw [if_pos hlo] at e
      obtain ⟨ds, e1, rfl⟩ := Option.map_eq_some_iff.mp e
      obtain ⟨v, rfl, hw⟩ := hv.one
      obtain ⟨a, ws, rfl, h1, h2⟩ := hw.list ex
      rw [Vals.ref1 r]
      obtain ⟨its, rv, pl, hz⟩ := I.list h1
      obtain ⟨ps, trs, rfl, hl, rel, hp⟩ := pairs_int I ex h2 e1
      have ei := refs_at rv
      subst ei
      have hlen : ds.length ≤ 100000 := by
        rw [pairsD_len e1]
        exact of_decide_eq_true hlo
      have hlm := mergeD_len ds []
      have htl : trs.length = ds.length := by
        have := rel.length
        rwa [List.length_map] at this
      have hm : (s.heap.objs.size == sysModules) = false := beq_eq_false_iff_ne.mpr (Nat.ne_of_gt I.big)
      refine PySem.call_dict_pairs (knd := PySem.intKind X.prog X.w) (kvs := trs.map (·.1)) (PairArg.list a (ps.map Value.ref).toArray (fun j => ps.getD j 0) (trs.map fun t => (t.2, t.1.2))) (I.ok.hd hcm) ⟨pl, by simp [hl], fun j k v hj => ?_⟩ ⟨by simp, fun j k v hj => ?_⟩ (by
        rw [List.length_map, htl]
        exact Nat.le_trans hlen (by decide)) fun h' tk hd' hk => ?_
      · rw [List.getElem?_map] at hj
        obtain ⟨t, ht, e⟩ := Option.map_eq_some_iff.mp hj
        cases e
        obtain ⟨b, hb, pa, _⟩ := hp j t ht
        have hg : ps.getD j 0 = b := by rw [List.getD_eq_getElem?_getD, hb]; rfl
        show _ = some (Value.ref (ps.getD j 0)) ∧ PairAt s.heap (ps.getD j 0) t.2 t.1.2
        rw [hg]
        exact ⟨by simp [hb], pa⟩
      · have hj : (trs.map fun t => (t.2, t.1.2))[j]? = some (k, v) := hj
        rw [List.getElem?_map] at hj
        obtain ⟨t, ht, e⟩ := Option.map_eq_some_iff.mp hj
        cases e
        obtain ⟨b, hb, _, tt, et⟩ := hp j t ht
        exact ⟨t.1.1, by rw [List.getElem?_map, ht]; rfl, by rw [et]; exact int_is _ _⟩
      · obtain ⟨ob', es', ep', g1, g2, g3, g4, g5, g6⟩ := hd'
        refine ⟨.ref s.heap.objs.size, upd H s.heap.objs.size (dO s.heap.objs.size ob'), I.laid (t' := tk) (fun b o e => hk b o (by simp) e) (Nat.le_refl _) (dO_ok g1), rfl, q _ _ (I.hok.fresh (Nat.le_refl _)) (.dc ⟨hm, g2, ?_, es', ep', g3, .inl ⟨X.prog, X.w, _, g4, g5, g6, merged_rel rel .nil⟩⟩)⟩
        simp only [List.length_nil] at hlm
        omega
    · rw [if_neg hlo] at e
      cases e
end
section
variable {X : Cx} {pr : List Nat} {W : WX} {cv : String → Value} {cl : Cl} {N : List Str} {sc : Scope}
theorem go_bi {b : BI} {es : Es} {σ : St} {H : Hp} {Q : VK} (h : tE X.K pr W cv (evE cl pr (.bi b es)) σ H Q) : tCB (rSemC X.K (biop b)) (tSs X.K pr W cv (evSs cl pr es)) σ H Q := by
  obtain ⟨fm, π, F, r, hR, k⟩ := h
  unfold evE at k
  refine ⟨fm, π, F, r, hR, (Go.bind k).imp fun vs H1 ⟨F1, r1, xs, e1, ⟨hR1, hv⟩, k1⟩ => ?_⟩
  cases q : rds r1 xs with
  | none => simp only [q] at k1; exact k1.no.elim
  | some ds =>
    simp only [q] at k1
    obtain ⟨z, ez, k2⟩ := k1.lift
    exact ⟨F1, ds, z, hR1.sub, Vall.rf hR1 hv q, ez, res_of hR1 k2 (biop_npk ez)⟩
theorem gE_biB {b : BI} {id : String} {es : Es} {x : Str} {y : Expr} {ys : List Expr} {p pos : Pos} (hc : CallR X (.builtin id) (rSemC X.K (biop b))) (hg : Gl X x) (hm : X.mg x = none) (hv : bootBuiltins x = some (.builtin id)) (hn : x ≠ "__name__") (hdb : (x == ("__debug__" : Str)) = false)
    (ny : notStar y = true) (hpl : (backTo pos (starEach ys X.env)).any (·.1) = false) (ha : PA X (y :: ys) (tSs X.K pr W cv (evSs cl pr es))) : PE X (.Call (.Name x p) (y :: ys) [] pos) (tE X.K pr W cv (evE cl pr (.bi b es))) :=
  (pe_callB hc hg hm hv ha hn hdb (star_cons ny) hpl).of fun σ H Q h => go_bi h
theorem gE_biT {b : BI} {T : String} {es : Es} {x : Str} {y : Expr} {ys : List Expr} {p pos : Pos} (hc : CallR X (.type T) (rSemC X.K (biop b))) (hg : Gl X x) (hm : X.mg x = none) (hv : bootBuiltins x = some (.type T)) (hn : x ≠ "__name__") (hdb : (x == ("__debug__" : Str)) = false)
    (ny : notStar y = true) (hpl : (backTo pos (starEach ys X.env)).any (·.1) = false) (ha : PA X (y :: ys) (tSs X.K pr W cv (evSs cl pr es))) : PE X (.Call (.Name x p) (y :: ys) [] pos) (tE X.K pr W cv (evE cl pr (.bi b es))) :=
  (pe_callTy hc hg hm hv ha hn hdb (star_cons ny) hpl).of fun σ H Q h => go_bi h
theorem gE_bi (g : Good cl cv N sc X) {b : BI} {es : Es} {x : Str} {y : Expr} {ys : List Expr} {p pos : Pos} (hs : biSup b = true) (hx : x = Str.ofString (biName b)) (hg : glB sc x = true)
    (ny : notStar y = true) (hpl : (backTo pos (starEach ys X.env)).any (·.1) = false) (ha : PA X (y :: ys) (tSs X.K pr W cv (evSs cl pr es))) : PE X (.Call (.Name x p) (y :: ys) [] pos) (tE X.K pr W cv (evE cl pr (.bi b es))) := by
  subst hx
  have G := g.gl hg
  cases b with
  | len => exact gE_biB cb_len G (g.blt "len" (by decide)) (by decide +kernel) (by decide) (by decide) ny hpl ha
  | abs => exact gE_biB cb_abs G (g.blt "abs" (by decide)) (by decide +kernel) (by decide) (by decide) ny hpl ha
  | min2 => exact gE_biB (cb_min2 g.calm) G (g.blt "min" (by decide)) (by decide +kernel) (by decide) (by decide) ny hpl ha
  | max2 => exact gE_biB (cb_max2 g.calm) G (g.blt "max" (by decide)) (by decide +kernel) (by decide) (by decide) ny hpl ha
  | toInt => exact gE_biT cb_int G (g.blt "int" (by decide)) (by decide +kernel) (by decide) (by decide) ny hpl ha
  | toStr => exact gE_biT cb_str G (g.blt "str" (by decide)) (by decide +kernel) (by decide) (by decide) ny hpl ha
  | toList => exact gE_biT cb_list G (g.blt "list" (by decide)) (by decide +kernel) (by decide) (by decide) ny hpl ha
  | toTuple => exact gE_biT cb_tuple G (g.blt "tuple" (by decide)) (by decide +kernel) (by decide) (by decide) ny hpl ha
  | maxL => exact gE_biB (cb_maxL g.calm) G (g.blt "max" (by decide)) (by decide +kernel) (by decide) (by decide) ny hpl ha
  | minL => exact gE_biB (cb_minL g.calm) G (g.blt "min" (by decide)) (by decide +kernel) (by decide) (by decide) ny hpl ha
  | sum => exact gE_biB (cb_sum g.calm) G (g.blt "sum" (by decide)) (by decide +kernel) (by decide) (by decide) ny hpl ha
  | all => exact gE_biB (cb_all g.calm) G (g.blt "all" (by decide)) (by decide +kernel) (by decide) (by decide) ny hpl ha
  | toDict => exact gE_biT (cb_dict g.calm) G (g.blt "dict" (by decide)) (by decide +kernel) (by decide) (by decide) ny hpl ha
  | anyI => exact gE_biB (cb_anyI g.calm) G (g.blt "any" (by decide)) (by decide +kernel) (by decide) (by decide) ny hpl ha
  | any => exact gE_biB (cb_any g.calm) G (g.blt "any" (by decide)) (by decide +kernel) (by decide) (by decide) ny hpl ha
  | sorted => exact gE_biB (cb_sorted g.calm g.hu) G (g.blt "sorted" (by decide)) (by decide +kernel) (by decide) (by decide) ny hpl ha
  | _ => cases hs
/-! isinstance -/
def tyD : D → String
  | .none => "NoneType" | .bool _ => "bool" | .int _ => "int" | .str _ => "str" | .list _ => "list" | .tuple _ => "tuple" | .dict _ => "dict"
theorem tyX_of {K : Frag} {F H : Hp} {v : V} {d : D} (ex : Ex F H) (nd : isDict d = false) (h : RF K F H v d) : TyX K H v (.type (tyD d)) := by
  cases d with
  | none => cases h.none; exact .base .non
  | bool b => cases h.bool; exact .base (.bl b)
  | int i => cases h.int; exact .base (.int i)
  | str z => cases h.str; exact .base (.str z)
  | list xs =>
    obtain ⟨a, vs, rfl, h1, _⟩ := h.list ex
    rcases h1 with (h1 | ⟨o, h1⟩) | ⟨o, its, n, h1, h2, _⟩
    · exact .base (.lst h1)
    · exact .base (.frz h1)
    · exact .kList h1 h2
  | tuple xs =>
    obtain ⟨a, vs, rfl, h1, _⟩ := h.tup ex
    rcases h1 with ⟨o, h1, _⟩ | ⟨o, its, n, h1, h2, _⟩
    · exact .fTuple h1
    · exact .kTuple h1 h2
  | dict xs => cases nd
theorem kit_of_kd {K : Frag} {k : Kd} {d : D} (nd : isDict d = false) : PySem.W.kitOne K (.type (tyD d)) (.type (kdName k)) = some (kdIs k d) := by
  cases d with
  | none => cases k <;> exact kit_ty (a := "NoneType") (r := false) (by decide +kernel)
  | bool b => cases k with
    | int => exact kit_ty (a := "bool") (b := "int") (r := true) (by decide +kernel)
    | bool => exact kit_ty (a := "bool") (b := "bool") (r := true) (by decide +kernel)
    | _ => exact kit_ty (a := "bool") (r := false) (by decide +kernel)
  | int b => cases k with
    | int => exact kit_ty (a := "int") (b := "int") (r := true) (by decide +kernel)
    | _ => exact kit_ty (a := "int") (r := false) (by decide +kernel)
  | str b => cases k with
    | str => exact kit_ty (a := "str") (b := "str") (r := true) (by decide +kernel)
    | _ => exact kit_ty (a := "str") (r := false) (by decide +kernel)
  | list b => cases k with
    | list => exact kit_ty (a := "list") (b := "list") (r := true) (by decide +kernel)
    | _ => exact kit_ty (a := "list") (r := false) (by decide +kernel)
  | tuple b => cases k with
    | tuple => exact kit_ty (a := "tuple") (b := "tuple") (r := true) (by decide +kernel)
    | _ => exact kit_ty (a := "tuple") (r := false) (by decide +kernel)
  | dict b => cases nd
theorem gE_isi (g : Good cl cv N sc X) {k : Kd} {a : E} {x t : Str} {y : Expr} {p pt pos : Pos} (hx : x = Str.ofString "isinstance") (hg : glB sc x = true) (ht : t = Str.ofString (kdName k)) (hgt : glB sc t = true) (ny : notStar y = true) (ha : PE X y (tE X.K pr W cv (evE cl pr a))) :
    PE X (.Call (.Name x p) [y, .Name t pt] [] pos) (tE X.K pr W cv (evE cl pr (.isi k a))) := by
  subst hx
  have ht2 : PE X (.Name t pt) (tC (.ty (kdName k))) := by
    subst ht
    have G := g.gl hgt
    cases k with
    | int => exact pe_bltn G (g.blt "int" (by decide)) (by decide +kernel) rfl (by decide) (by decide)
    | bool => exact pe_bltn G (g.blt "bool" (by decide)) (by decide +kernel) rfl (by decide) (by decide)
    | tuple => exact pe_bltn G (g.blt "tuple" (by decide)) (by decide +kernel) rfl (by decide) (by decide)
    | list => exact pe_bltn G (g.blt "list" (by decide)) (by decide +kernel) rfl (by decide) (by decide)
    | str => exact pe_bltn G (g.blt "str" (by decide)) (by decide +kernel) rfl (by decide) (by decide)
  refine (pe_callB call_isi (g.gl hg) (g.blt "isinstance" (by decide)) (by decide +kernel) (pa_cons ha (pa_cons ht2 pa_nil) (star_cons ny)) (by decide) (by decide) (star_cons ny)).of fun σ H Q ⟨fm, π, F, r, hR, k⟩ => ?_
  unfold evE at k
  refine ⟨fm, π, F, r, hR, (Go.bind k).imp fun v H1 ⟨F1, r1, u, e1, hu, k1⟩ => ?_⟩
  cases q : rd r1 u with
  | none => simp only [q] at k1; exact k1.no.elim
  | some d =>
    simp only [q] at k1
    cases nd : isDict d with
    | true => rw [nd, if_pos rfl] at k1; exact k1.no.elim
    | false =>
      rw [nd, if_neg Bool.false_ne_true] at k1
      obtain ⟨hR1, hf⟩ := RX.rf hu q
      exact ⟨v, .ty (kdName _), _, _, _, rfl, .ty _, tyX_of hR1.sub nd hf, kit_of_kd nd, go_fz k1 hR1 (.bl _)⟩
/-! list + range -/
theorem DpAll_rng {K : Frag} {F : Hp} (lo : Int) : ∀ n : Nat, DpAll K F ((List.range n).map fun i : Nat => V.int (lo + i)) ((List.range n).map fun k : Nat => PyData.int (lo + k)) := by
  intro n
  generalize List.range n = l
  induction l with
  | nil => exact .nil
  | cons a t ih => exact .cons (.int _) ih
theorem rgV_D {K : Frag} {F : Hp} (lo hi : Int) : DpAll K F (rgV lo hi) (rngD lo (hi - lo).toNat) := DpAll_rng lo _
theorem RFall.ints1 {K : Frag} {F H : Hp} {vs : List V} {j : Int} (h : RFall K F H vs [.int j]) : vs = [.int j] := by
  obtain ⟨v, rfl, h1⟩ := RFall.one h
  rw [RF.int h1]
theorem RFall.ints2 {K : Frag} {F H : Hp} {vs : List V} {i j : Int} (h : RFall K F H vs [.int i, .int j]) : vs = [.int i, .int j] := by
  obtain ⟨v, w, rfl, h1, h2⟩ := RFall.two h
  rw [RF.int h1, RF.int h2]
end
end Rk

/-! Rk, part J: methods of lists and tuples; list(range(..)). -/
namespace Rk
open PySem PySem.Spec PyProof.Rows L2
/-- no super() ahead of the dot -/
def dotOk : Expr → Bool
  | .Call (.Name _ _) [] [] _ => false
  | _ => true
theorem dot_of {o : Expr} {n : Str} {env : Env} {w : Sem Value} (h : dotOk o = true) : attributeBase o n env w = w := by
  unfold attributeBase
  split
  · cases h
  · rfl
theorem ck_dotOk {N : List Str} {sc : Scope} {e : E} {x : Expr} (h : ckE N sc e x = true) : dotOk x = true := by
  unfold dotOk
  split
  · cases e <;> simp [ckE] at h
  · rfl
section
variable {X : Cx} {pr : List Nat} {W : WX} {cv : String → Value} {cl : Cl} {N : List Str} {sc : Scope}
theorem few_of {x : Expr} {xs : List Expr} {env : Env} {pos : Pos} (nx : notStar x = true) (h : (backTo pos (starEach xs env)).any (·.1) = false) (hl : xs.length < 20) :
    ((backTo pos (starEach (x :: xs) env)).all (fun x => !x.1) && (backToKw pos (keywordEach [] env)).all (fun x => x.1.isSome)
      && decide ((x :: xs).length + ([] : List Keyword).length + (if ([] : List Keyword).isEmpty then 0 else 1) < 30)) = true := by
  rw [star_cons nx]
  have h1 : (backTo pos ((false, eval x env) :: starEach xs env)).all (fun x => !x.1) = true := by
    show (!false && (backTo pos (starEach xs env)).all (fun x => !x.1)) = true
    rw [Bool.not_false, Bool.true_and, List.all_eq_not_any_not]
    simp only [Bool.not_not]
    rw [h]
    rfl
  have h2 : decide ((x :: xs).length + ([] : List Keyword).length + (if ([] : List Keyword).isEmpty then 0 else 1) < 30) = true := by
    simp
    omega
  rw [h1, h2]
  rfl
/-! ### tuple.index -/
theorem mtf_index : MtR X "tuple.index" (fun x xs H Q => ∃ (a : Addr) (ws : List V) (w : V) (k : Nat) (z : V), x = V.ref a ∧ xs = [w] ∧ SqT X.K H a ws ∧ flatV w = true ∧ ws.all flatV = true ∧ ws[k]? = some z ∧ eqV z w = true ∧
    (∀ (m : Nat) (z' : V), m < k → ws[m]? = some z' → eqV z' w = false) ∧ Q (.int (k : Nat)) H) := by
  intro pins s σ H x xs v us Q I rx rxs hyp
  obtain ⟨a, ws, w, k, z, rfl, rfl, hq, fw, fws, hk, hit, hno, q⟩ := hyp
  cases rx
  cases rxs with
  | cons rw1 rt =>
    rename_i uw ut
    cases rt
    obtain ⟨its, rv, ⟨⟨cls, dd, dat, sl⟩, ho, hc, cap, hd⟩, hz⟩ := I.tuple hq
    simp only at hc hd
    subst hc hd
    obtain ⟨u, hu, ru⟩ := rv.get hk
    obtain ⟨kl, ke⟩ := List.getElem?_eq_some_iff.mp hu
    have hvl := rv.length
    have hk' : k < its.toArray.size := by simpa using kl
    refine call_meets PySem.F.slot_tuple_index ⟨_, ho, rfl⟩ PySem.F.entry_tuple_index (PySem.F.args_tuple_index_2 _ _)
      (_root_.TI.tuple_indexAt a its.toArray cap dd sl uw (eqU w) k hk' ?_ ?_) ⟨ho, fun u2 hu2 => mem_eqAt rw1 fw rv fws u2 (by simpa using hu2), ?_⟩
    · have e1 : its.toArray[k] = u := by simpa using ke
      rw [e1, eqU_of ru (flat_at fws hk)]
      exact hit
    · intro m hm hmk
      have hml : m < ws.length := by
        have : m < its.length := by simpa using hm
        omega
      have hy' : ws[m]? = some ws[m] := List.getElem?_eq_getElem hml
      obtain ⟨u2, hu2, ru2⟩ := rv.get hy'
      obtain ⟨_, hme⟩ := List.getElem?_eq_some_iff.mp hu2
      have e1 : its.toArray[m] = u2 := by simpa using hme
      rw [e1, eqU_of ru2 (flat_at fws hy')]
      exact hno m _ hmk hy'
    · exact ⟨.int (k : Nat), H, I.tok _, ⟨_, rfl⟩, q⟩
theorem flats_V {K : Frag} {F H : Hp} : ∀ {ds : List D} {vs : List V}, DpAll K F vs ds → ds.all flatD = true → vs.all flatV = true
  | [], _, h, _ => by cases h; rfl
  | y :: r, _, h, f => by
    cases h with
    | cons h1 h2 =>
      rw [List.all_cons, Bool.and_eq_true] at f ⊢
      exact ⟨(flat_V (F := F) (H := H) (.inl h1) f.1).1, flats_V (H := H) h2 f.2⟩
theorem findD_at {K : Frag} {F H : Hp} {w : V} {d : D} (hw : RF K F H w d) (fd : flatD d = true) : ∀ {ds : List D} {vs : List V} {k j : Nat}, DpAll K F vs ds → ds.all flatD = true → findD d ds k = some j →
    ∃ i z, j = k + i ∧ vs[i]? = some z ∧ eqV z w = true ∧ ∀ (m : Nat) (z' : V), m < i → vs[m]? = some z' → eqV z' w = false
  | [], _, _, _, _, _, e => by cases e
  | y :: r, _, k, j, h, fa, e => by
    cases h with
    | @cons v vs _ _ hv ht =>
      rw [List.all_cons, Bool.and_eq_true] at fa
      have hew : eqV v w = PyData.eqv y d := (flat_V hw fd).2 v y (.inl hv) fa.1
      unfold findD at e
      cases q : PyData.eqv y d with
      | true =>
        rw [q, if_pos rfl] at e
        cases e
        exact ⟨0, v, rfl, rfl, hew.trans q, fun m z' hm => absurd hm (Nat.not_lt_zero m)⟩
      | false =>
        rw [q, if_neg Bool.false_ne_true] at e
        obtain ⟨i, z, rfl, h2, h3, h4⟩ := findD_at hw fd ht fa.2 e
        refine ⟨i + 1, z, by omega, by simpa using h2, h3, fun m z' hm hz => ?_⟩
        cases m with
        | zero =>
          simp at hz
          subst hz
          exact hew.trans q
        | succ m => exact h4 m z' (by omega) (by simpa using hz)
theorem gE_bits {a : E} {o : Expr} {apos cpos : Pos} (ho : PE X o (tE X.K pr W cv (evE cl pr a))) (hd : dotOk o = true) (hl : (apos.endLine == cpos.line) = true) :
    PE X (.Call (.Attribute o (Str.ofString "bit_length") apos) [] [] cpos) (tE X.K pr W cv (evE cl pr (.bits a))) := by
  refine (pe_bits (apos := apos) (pos := cpos) (pe_S ho) (dot_of hd) hl).of fun σ H Q ⟨fm, π, F, r, hR, k⟩ => ?_
  unfold evE at k
  refine ⟨fm, π, F, r, hR, (Go.bind k).imp fun v H1 ⟨F1, r1, u, e1, ⟨hR1, hv⟩, k1⟩ => ?_⟩
  cases q1 : rd r1 u with
  | none => simp only [q1] at k1; exact k1.no.elim
  | some dx =>
    simp only [q1] at k1
    cases dx with
    | int i =>
      have q := res_of hR1 k1 (fun _ h => by cases h)
      exact ⟨i, (hR1.rf hv q1).int, q.1 _ (.int _)⟩
    | _ => exact k1.no.elim
theorem gE_index {a e : E} {o x : Expr} {apos cpos : Pos} (ho : PE X o (tE X.K pr W cv (evE cl pr a))) (hd : dotOk o = true) (hl : (apos.endLine == cpos.line) = true) (nx : notStar x = true) (hx : PA X [x] (tSs X.K pr W cv (evSs cl pr (.cons e .nil)))) :
    PE X (.Call (.Attribute o (Str.ofString "index") apos) [x] [] cpos) (tE X.K pr W cv (evE cl pr (.met .index a (.cons e .nil)))) := by
  refine ⟨fun pins s σ H Q I ⟨fm, π, F, r, hR, k⟩ => ?_⟩
  unfold evE at k
  refine wpAny_Call_method_late (dot_of hd) (few_of nx rfl (by simp)) hl rfl (thn ((pe_S ho).run pins s σ H _ I ⟨fm, π, F, r, hR, Go.bind k⟩) fun v s1 ⟨xv, H1, I1, rv, F1, r1, u, e1, ⟨hR1, hu⟩, k1⟩ => ?_)
  cases q0 : rd r1 u with
  | none => simp only [q0] at k1; exact k1.no.elim
  | some d0 =>
    simp only [q0] at k1
    have hf0 := hR1.rf hu q0
    have hsk : sameK .index d0 d0 = true := by
      cases q : sameK .index d0 d0 with
      | true => rfl
      | false => rw [q, if_neg Bool.false_ne_true] at k1; exact k1.no.elim
    rw [hsk, if_pos rfl] at k1
    have hA := hx.run cpos pins s1 σ H1 _ I1 ⟨fm, π, F1, r1, hR1, Go.bind k1⟩
    rw [star_cons nx] at hA ⊢
    -- the arguments are there
    have fin : ∀ (id : String), (∀ (us : List Value) (s2 : Shared) (vs : List V) (H2 : Hp), Inv X pins σ H2 s2 → Vals vs us → (∃ F2 r2 xs ds z dn, Ex F1 F2 ∧ R X.K fm pr π F2 σ r2 H2 ∧ Vall X.K F2 σ vs xs ∧ rds r2 xs = some ds ∧ rd r2 u = some dn ∧ sameK .index d0 dn = true ∧ metop .index dn ds = some z ∧ Go X.K pr W cv fm π F2 σ (.ok z r2) (pX X.K pr fm π σ) Q) →
        wpAny (model X.prog X.w) X.A (call (.builtin id) (v :: us)) (EP X pins σ Q) X.xe s2) →
        wpAny (model X.prog X.w) X.A (callWith cpos (.builtin id) [v] (backTo cpos ((false, eval x X.env) :: starEach [] X.env)) []) (EP X pins σ Q) X.xe s1 := fun id hc => by
      refine Calls.callWith_builtin (by rfl) (Calls.evalArgs_plain ?_)
      refine thn hA fun us s2 ⟨vs, H2, I2, r2', F2, r2, xs, e2, ⟨hR2, hv⟩, k2⟩ => ?_
      cases q1 : rd r2 u with
      | none => simp only [q1] at k2; exact k2.no.elim
      | some dn =>
        cases q2 : rds r2 xs with
        | none => simp only [q1, q2] at k2; exact k2.no.elim
        | some ds =>
          simp only [q1, q2] at k2
          cases q3 : sameK .index d0 dn with
          | false => rw [q3, if_neg Bool.false_ne_true] at k2; exact k2.no.elim
          | true =>
            rw [q3, if_pos rfl] at k2
            obtain ⟨z, ez, k3⟩ := k2.lift
            exact hc us s2 vs H2 I2 r2' ⟨F2, r2, xs, ds, z, dn, e2, hR2, hv, q2, q1, q3, ez, k3⟩
    have arg : ∀ {ys ds : List D} {z : RV} {isL : Bool}, metop .index (if isL = true then .list ys else .tuple ys) ds = some z → ∃ d j, ds = [d] ∧ flatD d = true ∧ ys.all flatD = true ∧ findD d ys 0 = some j ∧ z = .fz (.int (j : Nat)) := fun {ys ds z isL} ez => by
      cases isL
      all_goals
        match ds, ez with
        | [d], ez =>
          unfold metop at ez
          simp only [Bool.false_eq_true, if_false, if_true] at ez
          split at ez
          · rename_i hb
            rw [Bool.and_eq_true] at hb
            obtain ⟨j, ej, rfl⟩ := Option.map_eq_some_iff.mp ez
            exact ⟨d, j, rfl, hb.1, hb.2, ej, rfl⟩
          · cases ez
        | [], ez => simp [metop] at ez
        | _ :: _ :: _, ez => simp [metop] at ez
    cases d0 with
    | list xs0 =>
      obtain ⟨aa, ws, e5, hL, _⟩ := hf0.list hR1.sub
      subst e5
      obtain ⟨ty, dn⟩ := tyV_is (T := "list") I1 rv (show tyV X.K "list" (.ref aa) H1 from .inl ⟨rfl, _, hL⟩)
      refine ⟨"list", "list.index", PySem.F.plainAttrs_list, PySem.F.slot_list_index, PySem.F.type_list_index, ty, dn, fin _ fun us s2 vs H2 I2 rvs ⟨F2, r2, xs, ds, z, dn, e2, hR2, hv, q2, q1, q3, ez, k3⟩ => ?_⟩
      cases dn with
      | list ys =>
        obtain ⟨d, j, rfl, fd, fa, ej, rfl⟩ := arg (isL := true) ez
        obtain ⟨w, rfl, hw⟩ := (Vall.rf hR2 hv q2).one
        obtain ⟨ab, vs2, e6, hs, ha⟩ := (hR2.rf (hu.mono e2) q1).list hR2.sub
        cases e6
        obtain ⟨i, zz, rfl, h2, h3, h4⟩ := findD_at hw fd ha fa ej
        refine mt_index pins s2 σ H2 _ [w] v us Q I2 rv rvs ⟨aa, vs2, w, i, zz, rfl, rfl, hs, (flat_V hw fd).1, flats_V (H := H2) ha fa, h2, h3, h4, ?_⟩
        rw [Nat.zero_add] at k3
        exact go_fz k3 hR2 (.int _)
      | _ => cases q3
    | tuple xs0 =>
      obtain ⟨aa, ws, e5, hL, _⟩ := hf0.tup hR1.sub
      subst e5
      cases rv
      have ty : s1.TypeIs (.ref aa) "tuple" ∧ ∀ b, (Value.ref aa) = .ref b → ∃ ob, s1.heap.get? b = some ob ∧ ob.dict = none := by
        rcases hL with ⟨o, ho, hdn⟩ | ⟨o, its, n, ho, hc, hdn, _⟩
        · obtain ⟨hg, _, its, _, o2, h1, h2, h3⟩ := (show ObjOk X.prog X.w H1 s1.heap aa (.frz o (.tup ws)) from I1.hok aa _ ho)
          rw [hg] at h1
          cases h1
          refine ⟨⟨o, hg, h2⟩, fun b eb => ?_⟩
          cases eb
          exact ⟨o, hg, hdn⟩
        · refine ⟨⟨o, I1.kIn aa o ho, hc⟩, fun b eb => ?_⟩
          cases eb
          exact ⟨o, I1.kIn _ o ho, hdn⟩
      refine ⟨"tuple", "tuple.index", PySem.F.plainAttrs_tuple, PySem.F.slot_tuple_index, PySem.F.type_tuple_index, ty.1, ty.2, fin _ fun us s2 vs H2 I2 rvs ⟨F2, r2, xs, ds, z, dn, e2, hR2, hv, q2, q1, q3, ez, k3⟩ => ?_⟩
      cases dn with
      | tuple ys =>
        obtain ⟨d, j, rfl, fd, fa, ej, rfl⟩ := arg (isL := false) ez
        obtain ⟨w, rfl, hw⟩ := (Vall.rf hR2 hv q2).one
        obtain ⟨ab, vs2, e6, hs, ha⟩ := (hR2.rf (hu.mono e2) q1).tup hR2.sub
        cases e6
        obtain ⟨i, zz, rfl, h2, h3, h4⟩ := findD_at hw fd ha fa ej
        refine mtf_index pins s2 σ H2 (.ref aa) [w] _ us Q I2 rfl rvs ⟨aa, vs2, w, i, zz, rfl, rfl, hs.sq, (flat_V hw fd).1, flats_V (H := H2) ha fa, h2, h3, h4, ?_⟩
        rw [Nat.zero_add] at k3
        exact go_fz k3 hR2 (.int _)
      | _ => cases q3
    | _ => cases hsk
/-! ### a slot's own list is changed -/
theorem RF.flat {K : Frag} {F H : Hp} {v : V} {d : D} (h : RF K F H v d) (f : flatD d = true) : Dp K F v d := by
  rcases h with h | ⟨a, o, rfl, h1, h2⟩
  · exact h
  · cases h2 <;> cases f
theorem Go.addP {α β : Type} {res : O α} {P : Hp → Ro → Hp → β → α → Prop} {Q : β → Hp → Prop} {fm : Fm} {π : List Pin} {F : Hp} {σ : St} {p : Addr} {o : HO} (h : Go X.K pr W cv fm π F σ res P Q) : Go X.K pr W cv fm (⟨none, p, o⟩ :: π) F σ res P Q := by
  cases res with
  | no => exact h
  | ok x r => exact h
  | ex c r => exact fun F' H' e hR => h F' H' e (hR.drop rfl)
theorem go_int {α β : Type} {ev : Ro → O RV} {f : Int → Ro → O α} {fm : Fm} {π π' : List Pin} {F : Hp} {σ : St} {r : Ro} {P : Hp → Ro → Hp → β → α → Prop} {Q : β → Hp → Prop}
    (k : Go X.K pr W cv fm π F σ ((ev r).bind fun x r => (asInt x r).bind f) P Q) {Q' : V → Hp → Prop} (hQ : ∀ i F1 r1 H1, Ex F F1 → R X.K fm pr π' F1 σ r1 H1 → Go X.K pr W cv fm π F1 σ (f i r1) P Q → Q' (.int i) H1) :
    Go X.K pr W cv fm π F σ (ev r) (pX X.K pr fm π' σ) Q' := by
  refine (Go.bind (Pa := pX X.K pr fm π' σ) k).imp fun v H1 ⟨F1, r1, u, e1, hu, k1⟩ => ?_
  cases u with
  | fz d =>
    cases d with
    | int i =>
      obtain ⟨hR1, hd⟩ := hu
      cases hd
      exact hQ i F1 r1 H1 e1 hR1 k1
    | _ => exact k1.no.elim
  | pk i => exact k1.no.elim
  | fr d => exact k1.no.elim
theorem two_get (a b c d e f : Int) : (valV (mergeK [] [((Sum.inl a : Key), V.int b), ((Sum.inl c : Key), V.int d)]) (Sum.inl e : Key)).getD (.int f) = .int (if e = c then d else if e = a then b else f) := by
  show (valV (putK (putK [] (Sum.inl a : Key) (V.int b)) (Sum.inl c : Key) (.int d)) (Sum.inl e : Key)).getD (.int f) = _
  have e1 : putK ([] : List (Key × V)) (Sum.inl a : Key) (.int b) = [((Sum.inl a : Key), V.int b)] := rfl
  rw [e1]
  by_cases h1 : a = c
  · subst h1
    have e2 : putK [((Sum.inl a : Key), V.int b)] (Sum.inl a : Key) (.int d) = [((Sum.inl a : Key), V.int d)] := by simp [putK]
    rw [e2]
    by_cases h2 : e = a
    · subst h2
      rw [valV_pos rfl, if_pos rfl]
      rfl
    · rw [valV_neg (by simpa using fun z => h2 z.symm), if_neg h2, if_neg h2]
      rfl
  · have e2 : putK [((Sum.inl a : Key), V.int b)] (Sum.inl c : Key) (.int d) = [((Sum.inl a : Key), V.int b), ((Sum.inl c : Key), V.int d)] := by simp [putK, h1]
    rw [e2]
    by_cases h2 : e = a
    · subst h2
      rw [valV_pos rfl, if_neg h1, if_pos rfl]
      rfl
    · rw [valV_neg (by simpa using fun z => h2 z.symm)]
      by_cases h3 : e = c
      · subst h3
        rw [valV_pos rfl, if_pos rfl]
        rfl
      · rw [valV_neg (by simpa using fun z => h3 z.symm), if_neg h3, if_neg h2]
        rfl
theorem gE_dget (hu : X.A.units + 64 < cLine) {k1 v1 k2 v2 x y : E} {ke1 ve1 ke2 ve2 xe ye : Expr} {dp apos cpos : Pos} (h1 : PE X ke1 (tE X.K pr W cv (evE cl pr k1))) (h2 : PE X ve1 (tE X.K pr W cv (evE cl pr v1))) (h3 : PE X ke2 (tE X.K pr W cv (evE cl pr k2))) (h4 : PE X ve2 (tE X.K pr W cv (evE cl pr v2)))
    (h5 : PE X xe (tE X.K pr W cv (evE cl pr x))) (h6 : PE X ye (tE X.K pr W cv (evE cl pr y))) (hl : (apos.endLine == cpos.line) = true) (nx : notStar xe = true) (ny : notStar ye = true) :
    PE X (.Call (.Attribute (.Dict [some ke1, some ke2] [ve1, ve2] dp) (Str.ofString "get") apos) [xe, ye] [] cpos) (tE X.K pr W cv (evE cl pr (.dget k1 v1 k2 v2 x y))) := by
  refine (pe_dget2 (by omega) (pe_disp (pps_cons h1 h2 (pps_cons h3 h4 pps_nil)) rfl rfl (by simp) (by simp)) h5 h6 ⟨rfl, few_of nx (by rw [star_cons ny]; rfl) (by simp), hl, by rw [star_cons nx, star_cons ny]; rfl⟩).of fun σ H Q ⟨fm, π, F, r, hR, k⟩ => ?_
  intro p hp
  have hR0 := hR.newP (o := .dK []) hp
  unfold evE at k
  refine ⟨fm, _, F, r, hR0, (go_int k fun a F1 r1 H1 e1 hR1 k => ?_).addP⟩
  refine ⟨fm, _, F1, r1, hR1, (go_int k fun b F2 r2 H2 e2 hR2 k => ?_).addP⟩
  refine ⟨fm, _, F2, r2, hR2, (go_int k fun c F3 r3 H3 e3 hR3 k => ?_).addP⟩
  refine ⟨fm, _, F3, r3, hR3, (go_int k fun d F4 r4 H4 e4 hR4 k => ?_).addP⟩
  have hp4 := (hR4.pin _ List.mem_cons_self).1
  refine ⟨hp4, [((Sum.inl a : Key), V.int b), ((Sum.inl c : Key), V.int d)], rfl, by simp, p, rfl, .inl ⟨_, .inl upd_same⟩, ?_⟩
  have hR5 := hR4.change (o' := .dK (mergeK [] [((Sum.inl a : Key), V.int b), ((Sum.inl c : Key), V.int d)]))
  refine ⟨fm, _, F4, r4, hR5, (go_int k fun e F5 r5 H5 e5 hR6 k => ?_).addP⟩
  refine ⟨fm, _, F5, r5, hR6, (go_int k fun f F6 r6 H6 e6 hR7 k => ?_).addP⟩
  have hp6 := (hR7.pin _ List.mem_cons_self).1
  refine ⟨_, DGet.k (k := Sum.inl e) hp6, ?_⟩
  rw [two_get]
  exact go_fz k (hR7.drop rfl) (.int _)
theorem op_notin_rng : OpR X (compareOp .NotIn) (fun x y H Q => ∃ i a lo hi, x = V.int i ∧ y = V.ref a ∧ H a = some (.rng lo hi) ∧ Q (.bl (!decide (lo ≤ i ∧ i < hi))) H) := by
  intro pins s σ H x y v u Q I rx ry h
  obtain ⟨i, a, lo, hi, rfl, rfl, ha, q⟩ := h
  obtain ⟨k, rfl⟩ := rx
  obtain rfl : u = Value.ref a := ry
  obtain ⟨t1, t2, t3, ho⟩ := I.hok a _ ha
  show wpAny _ _ (do return Value.bool (!(← contains (Value.ref a) (Value.int i k)))) _ _ s
  refine wpAny_bind (wpAny_contains_slot (T := "range") ⟨_, ho, rfl⟩ F.slot_range_contains (call_meets F.slot_range_contains ⟨_, ho, rfl⟩ F.entry_range_contains (F.args_range_contains_2 _ _) (q_contains a lo hi i t1 t2 t3 k)
    ⟨ho, wpAny_truthy_bool (wpAny_pure ⟨.bl _, H, I, rfl, ?_⟩)⟩))
  rw [place1]
  exact q
theorem cr_range1 : CallR X (.type "range") (fun vs H Q => ∃ j, vs = [V.int j] ∧ ∀ p, H p = none → Q (.ref p) (upd H p (.rng 0 j))) := by
  intro pins s σ H vs us Q I r h
  obtain ⟨j, rfl, q⟩ := h
  obtain ⟨u1, rfl, ri⟩ := vals1 r
  obtain ⟨t, rfl⟩ := ri
  refine call_range_1 ⟨.ref s.heap.objs.size, upd H s.heap.objs.size (.rng 0 j), I.laid (t' := s.toks + 1 + 1) (fun b o e => Heap.get?_push_of_some _ e) (Nat.le_refl _) ?_, rfl, q _ (I.hok.fresh (Nat.le_refl _))⟩
  exact ⟨_, _, _, Heap.get?_push_size _ rfl⟩
/-- x in range(n), x not in range(n) -/
theorem gE_inr (g : Good cl cv N sc X) {neg : Bool} {e e' : E} {x y : Expr} {p1 p2 p3 : Pos} (hg : glB sc (Str.ofString "range") = true) (h1 : PE X x (tE X.K pr W cv (evE cl pr e))) (h2 : PE X y (tE X.K pr W cv (evE cl pr e'))) (ny : notStar y = true) :
    PE X (.Compare x [if neg then CmpOp.NotIn else CmpOp.In] [.Call (.Name (Str.ofString "range") p1) [y] [] p2] p3) (tE X.K pr W cv (evE cl pr (.inr neg e e'))) ∧ PT X (.Compare x [if neg then CmpOp.NotIn else CmpOp.In] [.Call (.Name (Str.ofString "range") p1) [y] [] p2] p3) (tT X.K pr W cv fun r => (evE cl pr (.inr neg e e') r).bind asBool) := by
  have hr : PE X (.Call (.Name (Str.ofString "range") p1) [y] [] p2) _ := pe_callTy (cr_range1 (X := X)) (g.gl hg) (g.blt "range" (by decide)) (by decide +kernel) (pa_cons h2 pa_nil (star_cons ny)) (by decide) (by decide) (star_cons ny)
  have key : ∀ (f : Bool → Bool) (σ : St) (H : Hp) (Q : V → Hp → Prop), tE X.K pr W cv (fun r => (evE cl pr e r).bind fun a r => (asInt a r).bind fun i r => (evE cl pr e' r).bind fun b r => (asInt b r).bind fun j r => .ok (.fz (.bool (f (decide (0 ≤ i ∧ i < j))))) r) σ H Q →
      tE X.K pr W cv (evE cl pr e) σ H fun a H1 => tE X.K pr W cv (evE cl pr e') σ H1 fun b H2 => ∃ j, [b] = [V.int j] ∧ ∀ p, H2 p = none → ∃ i a' lo hi, a = V.int i ∧ V.ref p = V.ref a' ∧ upd H2 p (.rng 0 j) a' = some (.rng lo hi) ∧ Q (.bl (f (decide (lo ≤ i ∧ i < hi)))) (upd H2 p (.rng 0 j)) := fun f σ H Q ⟨fm, π, F, r, hR, k⟩ => by
    refine ⟨fm, π, F, r, hR, go_int k fun i F1 r1 H1 e1 hR1 k => ?_⟩
    refine ⟨fm, π, F1, r1, hR1, go_int k fun j F2 r2 H2 e2 hR2 k => ⟨j, rfl, fun p hp => ⟨i, p, 0, j, rfl, rfl, upd_same, ?_⟩⟩⟩
    exact go_fz k ((hR2.newP hp).drop rfl) (.bl _)
  cases neg with
  | true =>
    refine ⟨(pe_cmpR (op_notin_rng (X := X)) h1 hr (by with_unfolding_all rfl)).of fun σ H Q h => ?_, (pt_cmpR (op_notin_rng (X := X)) h1 hr (by with_unfolding_all rfl)).of fun σ H Q h => ?_⟩
    · exact key (fun b => !b) σ H Q h
    · exact key (fun b => !b) σ H _ (tT_E h)
  | false =>
    refine ⟨(pe_cmpR (op_in_rng (X := X)) h1 hr (by with_unfolding_all rfl)).of fun σ H Q h => ?_, (pt_cmpR (op_in_rng (X := X)) h1 hr (by with_unfolding_all rfl)).of fun σ H Q h => ?_⟩
    · exact key (fun b => b) σ H Q h
    · exact key (fun b => b) σ H _ (tT_E h)
theorem gE_get (hu : X.A.units + 64 < cLine) {a e e' : E} {o x y : Expr} {apos cpos : Pos} (ho : PE X o (tE X.K pr W cv (evE cl pr a))) (hd : dotOk o = true) (hl : (apos.endLine == cpos.line) = true) (nx : notStar x = true) (ny : notStar y = true) (hx : PA X [x, y] (tSs X.K pr W cv (evSs cl pr (.cons e (.cons e' .nil))))) :
    PE X (.Call (.Attribute o (Str.ofString "get") apos) [x, y] [] cpos) (tE X.K pr W cv (evE cl pr (.met .get a (.cons e (.cons e' .nil))))) := by
  refine ⟨fun pins s σ H Q I ⟨fm, π, F, r, hR, k⟩ => ?_⟩
  unfold evE at k
  refine wpAny_Call_method_late (dot_of hd) (few_of nx (by rw [star_cons ny]; rfl) (by simp)) hl rfl (thn ((pe_S ho).run pins s σ H _ I ⟨fm, π, F, r, hR, Go.bind k⟩) fun v s1 ⟨xv, H1, I1, rv, F1, r1, u, e1, ⟨hR1, hu1⟩, k1⟩ => ?_)
  cases q0 : rd r1 u with
  | none => simp only [q0] at k1; exact k1.no.elim
  | some d0 =>
    simp only [q0] at k1
    have hf0 := hR1.rf hu1 q0
    have hsk : sameK .get d0 d0 = true := by
      cases q : sameK .get d0 d0 with
      | true => rfl
      | false => rw [q, if_neg Bool.false_ne_true] at k1; exact k1.no.elim
    rw [hsk, if_pos rfl] at k1
    have hA := hx.run cpos pins s1 σ H1 _ I1 ⟨fm, π, F1, r1, hR1, Go.bind k1⟩
    rw [star_cons nx, star_cons ny] at hA ⊢
    cases d0 with
    | dict ds0 =>
      obtain ⟨aa, ob, e5, _, hr, hg⟩ := rf_dict I1 hf0
      subst e5
      cases rv
      refine ⟨"dict", "dict.get", PySem.F.plainAttrs_dict, PySem.F.slot_dict_get, PySem.F.type_dict_get, ⟨ob, hg, hr.2.1.1⟩, fun b eb => ?_, ?_⟩
      · cases eb
        exact ⟨ob, hg, hr.2.1.2.1⟩
      · refine Calls.callWith_builtin (by rfl) (Calls.evalArgs_plain ?_)
        refine thn hA fun us s2 ⟨vs, H2, I2, rvs, F2, r2, xs, e2, ⟨hR2, hv⟩, k2⟩ => ?_
        cases q1 : rd r2 u with
        | none => simp only [q1] at k2; exact k2.no.elim
        | some dn =>
          cases q2 : rds r2 xs with
          | none => simp only [q1, q2] at k2; exact k2.no.elim
          | some ds =>
            simp only [q1, q2] at k2
            cases dn with
            | dict dd =>
              rw [show sameK .get (.dict ds0) (.dict dd) = true from rfl, if_pos rfl] at k2
              obtain ⟨z, ez, k3⟩ := k2.lift
              match ds, ez with
              | [dk, dx], ez =>
                have ez : (if (keyFit dd dk && flatD dx) = true then some (RV.fz ((dFind dd dk).getD dx)) else none) = some z := ez
                obtain ⟨hc, rfl⟩ := some_if ez
                rw [Bool.and_eq_true] at hc
                obtain ⟨w, t, rfl, hw, ht⟩ := (Vall.rf hR2 hv q2).two
                cases rvs with
                | cons r3 rvs =>
                  cases rvs with
                  | cons r4 rvs =>
                    cases rvs
                    exact dict_getD (v := V.ref aa) hu I2 hR2.sub rfl r3 r4 (hR2.rf (hu1.mono e2) q1) hw (ht.flat hc.2) hc.1 fun v hv => go_fz k3 hR2 hv
            | _ => exact k2.no.elim
    | _ => cases hsk
/-- {} -/
theorem gE_dnew {t : Bool} {pos : Pos} : PE X (.Dict [] [] pos) (tE X.K pr W cv (evE cl pr (.dnew t))) := by
  refine (pe_dnewB (t := t)).of fun σ H Q ⟨fm, π, F, r, hR, k⟩ p ob hp hc => ?_
  unfold evE at k
  exact k.val2 (Ex.refl F) ⟨p, _, rfl, hR.newP hp, hc F, hR.parN hp⟩
theorem R.mut {fm : Fm} {π : List Pin} {F : Hp} {σ : St} {r : Ro} {H : Hp} {i : Nat} {xs : List D} (h : R X.K fm pr π F σ r H) (hi : r[i]? = some (.ow (.list xs))) :
    ∃ a vs, σ[i]? = some (some (.ref a)) ∧ H a = some (.lst vs) ∧ DpAll X.K F vs xs ∧ ∀ vs' ds', DpAll X.K F vs' ds' → R X.K fm pr π F σ (r.set i (.ow (.list ds'))) (upd H a (.lst vs')) := by
  obtain ⟨a, o, h1, h2, h3, h4, h5, h6⟩ := h.ow i _ hi
  obtain ⟨vs, rfl, ha⟩ := h3.list
  refine ⟨a, vs, h1, h2, ha, fun vs' ds' hv => ?_⟩
  obtain ⟨o, hc, hR⟩ := h.take hi h1
  have il : i < r.length := (List.getElem?_eq_some_iff.mp hi).1
  have g := (hR.change (o' := .lst vs')).untake (i := i) (d := .list ds') (by rw [getr il]) h1 (.lst hv) fun q hq e => h.par3 q hq i _ hi (by rw [h1, e])
  rw [List.set_set] at g
  exact g
/-- a method that changes its list -/
def rMu (K : Frag) (m : MU) : V → List V → Hp → VK → Prop := fun x args H Q => ∃ F a vs xs ds y d', x = .ref a ∧ H a = some (.lst vs) ∧ DpAll K F vs xs ∧ DpAll K F args ds ∧ muop m (.list xs) ds = some (y, d') ∧
  ∀ v vs' ds', d' = .list ds' → Dp K F v y → DpAll K F vs' ds' → Q v (upd H a (.lst vs'))
theorem mu_append : MtR X "list.append" (rMu X.K .append) := by
  intro pins s σ H x xs v us Q I rx rs ⟨F, a, vs, ys, ds, y, d', e1, hH, ha, hargs, e, q⟩
  cases hargs with
  | nil => cases e
  | @cons w ws d ds hw ht =>
    cases ht with
    | cons _ _ => simp [muop] at e
    | nil =>
      unfold muop at e
      simp only at e
      obtain ⟨hl, e2⟩ := some_if e
      cases e2
      exact mt_append pins s σ H x _ v us Q I rx rs ⟨a, vs, w, e1, rfl, hH, by rw [DpAll.length ha]; exact lenOk_lt hl, q _ _ _ rfl .non (DpAll.append ha (.cons hw .nil))⟩
theorem mu_pop : MtR X "list.pop" (rMu X.K .pop) := by
  intro pins s σ H x xs v us Q I rx rs ⟨F, a, vs, ys, ds, y, d', e1, hH, ha, hargs, e, q⟩
  cases hargs with
  | cons hw ht => simp [muop] at e
  | nil =>
    unfold muop at e
    simp only at e
    obtain ⟨z, ez, e2⟩ := Option.map_eq_some_iff.mp e
    cases e2
    obtain ⟨w, hw, hwz⟩ := DpAll.get ha ez
    refine mt_pop pins s σ H x _ v us Q I rx rs ⟨a, vs, w, e1, rfl, hH, by rw [DpAll.length ha]; exact hw, q _ _ _ rfl hwz (DpAll.dropLast ha)⟩
theorem seqIx_of {i : Int} {n : Nat} (h1 : 0 ≤ i) (h2 : i < n) : seqIndex? i n = some i.toNat := by
  unfold seqIndex?
  split <;> first | (simp; omega) | (split <;> first | (simp; omega) | omega) | omega
theorem mu_popAt : MtR X "list.pop" (rMu X.K .popAt) := by
  intro pins s σ H x xs v us Q I rx rs ⟨F, a, vs, ys, ds, y, d', e1, hH, ha, hargs, e, q⟩
  cases hargs with
  | nil => cases e
  | @cons w ws d ds hw ht =>
    cases ht with
    | cons _ _ => cases d <;> simp [muop] at e
    | nil =>
      cases d with
      | int i =>
        unfold muop at e
        simp only at e
        split at e
        · rename_i hb
          have hb := of_decide_eq_true hb
          obtain ⟨z, ez, e2⟩ := Option.map_eq_some_iff.mp e
          cases e2
          obtain ⟨u, hu, huz⟩ := DpAll.get ha ez
          cases hw
          refine mt_popAt pins s σ H x _ v us Q I rx rs ⟨a, vs, i, i.toNat, u, e1, rfl, hH, by omega, by omega, seqIx_of hb.1 (by rw [DpAll.length ha]; exact hb.2.1), hu, q _ _ _ rfl huz (DpAll.erase _ ha)⟩
        · cases e
      | _ => simp [muop] at e
theorem mu_remove : MtR X "list.remove" (rMu X.K .remove) := by
  intro pins s σ H x xs v us Q I rx rs ⟨F, a, vs, ys, ds, y, d', e1, hH, ha, hargs, e, q⟩
  cases hargs with
  | nil => cases e
  | @cons w ws d ds hw ht =>
    cases ht with
    | cons _ _ => cases d <;> simp [muop] at e
    | nil =>
      cases d with
      | int i =>
        unfold muop at e
        simp only at e
        cases hn : intsD ys with
        | none => simp only [hn] at e; cases e
        | some ns =>
          simp only [hn] at e
          split at e
          · rename_i hb
            obtain ⟨hb, hb2⟩ := of_decide_eq_true hb
            cases e
            obtain ⟨rfl, rfl⟩ := DpAll.ints ha hn
            cases hw
            have hj : ns.findIdx (fun z => z == i) < ns.length := List.findIdx_lt_length_of_exists ⟨i, hb, by simp⟩
            have hat : ns[ns.findIdx fun z => z == i]? = some i := by
              have h1 := List.findIdx_getElem (p := fun z => z == i) (xs := ns) (w := hj)
              rw [List.getElem?_eq_getElem hj]
              exact congrArg some (eq_of_beq h1)
            refine mt_remove pins s σ H x _ v us Q I rx rs ⟨a, ns, i, _, e1, rfl, hH, hat, fun m hm z => ?_, q _ _ _ rfl .non ?_⟩
            · obtain ⟨h1, h2⟩ := List.getElem?_eq_some_iff.mp z
              have h3 := List.not_of_lt_findIdx hm
              rw [h2] at h3
              simp at h3
            · exact DpAll.ofInts _
          · cases e
      | _ => simp [muop] at e
theorem mu_clear : MtR X "list.clear" (rMu X.K .clear) := by
  intro pins s σ H x xs v us Q I rx rs ⟨F, a, vs, ys, ds, y, d', e1, hH, ha, hargs, e, q⟩
  cases hargs with
  | cons hw ht => simp [muop] at e
  | nil =>
    cases e
    exact mt_clear pins s σ H x _ v us Q I rx rs ⟨a, vs, e1, rfl, hH, q _ _ _ rfl .non .nil⟩
theorem mu_reverse : MtR X "list.reverse" (rMu X.K .reverse) := by
  intro pins s σ H x xs v us Q I rx rs ⟨F, a, vs, ys, ds, y, d', e1, hH, ha, hargs, e, q⟩
  cases hargs with
  | cons hw ht => simp [muop] at e
  | nil =>
    cases e
    exact mt_reverse pins s σ H x _ v us Q I rx rs ⟨a, vs, e1, rfl, hH, q _ _ _ rfl .non (DpAll.reverse ha)⟩
theorem muop_lst {m : MU} {xs : List D} {ds : List D} {y d' : D} (e : muop m (.list xs) ds = some (y, d')) : ∃ ds', d' = .list ds' := by
  unfold muop at e
  split at e
  all_goals first | cases e | skip
  all_goals first
    | exact ⟨_, rfl⟩
    | (obtain ⟨_, e2⟩ := some_if e; cases e2; exact ⟨_, rfl⟩)
    | (obtain ⟨_, _, e2⟩ := Option.map_eq_some_iff.mp e; cases e2; exact ⟨_, rfl⟩)
    | (split at e <;> first | (obtain ⟨_, _, e2⟩ := Option.map_eq_some_iff.mp e; cases e2; exact ⟨_, rfl⟩) | (obtain ⟨_, e2⟩ := some_if e; cases e2; exact ⟨_, rfl⟩) | cases e)
theorem go_mu {m : MU} {i : Nat} {es : Es} {σ : St} {H : Hp} {Q : VK} (h : tE X.K pr W cv (evE cl pr (.mu m i es)) σ H Q) :
    tE X.K pr W cv (evE cl pr (.var i)) σ H fun x H1 => tyV X.K "list" x H1 ∧ tDs X.K pr W cv (evCs cl pr es) σ H1 fun xs H2 => rMu X.K m x xs H2 Q := by
  obtain ⟨fm, π, F, r, hR, k⟩ := h
  unfold evE at k
  cases hi : r[i]? with
  | none => simp only [hi] at k; exact k.no.elim
  | some s =>
    simp only [hi] at k
    cases s with
    | ow d =>
      cases d with
      | list xs =>
        simp only at k
        refine ⟨fm, π, F, r, hR, ?_⟩
        unfold evE
        simp only [hi]
        intro v F1 H1 e1 hx
        obtain ⟨hR1, hs⟩ := hx
        obtain ⟨a, vs, h1, h2, h3, _⟩ := hR1.mut hi
        rw [hs] at h1
        cases h1
        refine ⟨.inl ⟨rfl, vs, .inl (.inl h2)⟩, fm, π, F1, r, hR1, (Go.bind (Go.up k e1)).imp fun ws H2 ⟨F2, r2, ds, e2, ⟨hR2, hds⟩, k2⟩ => ?_⟩
        cases hi2 : r2[i]? with
        | none => simp only [hi2] at k2; exact k2.no.elim
        | some s2 =>
          simp only [hi2] at k2
          cases s2 with
          | ow d2 =>
            simp only at k2
            cases q : muop m d2 ds with
            | none => simp only [q] at k2; exact k2.no.elim
            | some yd =>
              obtain ⟨y, d'⟩ := yd
              simp only [q] at k2
              cases d2 with
              | list xs2 =>
                obtain ⟨a2, vs2, g1, g2, g3, g4⟩ := hR2.mut hi2
                rw [hs] at g1
                cases g1
                refine ⟨F2, a, vs2, xs2, ds, y, d', rfl, g2, g3, hds, q, fun v vs' ds' ed hv hvs => ?_⟩
                subst ed
                exact k2.val2 (Ex.refl F2) ⟨g4 vs' ds' hvs, hv⟩
              | _ => simp [muop] at q
          | _ => exact k2.no.elim
      | _ => exact k.no.elim
    | _ => exact k.no.elim
theorem gE_mu0 {m : MU} {id : String} {i : Nat} {name : Str} {x : Expr} {apos cpos : Pos} (hm : MtR X id (rMu X.K m)) (slot : Slot "list" name id) (hty : typeOf (.builtin id) = pure (.type "method_descriptor")) (hd : dotOk x = true) (hl : (apos.endLine == cpos.line) = true)
    (hv : PE X x (tE X.K pr W cv (evE cl pr (.var i)))) : PE X (.Call (.Attribute x name apos) [] [] cpos) (tE X.K pr W cv (evE cl pr (.mu m i .nil))) :=
  (pe_bm0 PySem.F.plainAttrs_list slot hty hm hv (dot_of hd) hl).of fun σ H Q h => by
    obtain ⟨fm, π, F, r, hR, k⟩ := go_mu h
    refine ⟨fm, π, F, r, hR, k.imp fun v H1 ⟨h1, h2⟩ => ⟨h1, ?_⟩⟩
    obtain ⟨fm2, π2, F2, r2, hR2, k2⟩ := h2
    exact k2.val2 (Ex.refl F2) ⟨hR2, .nil⟩
theorem gE_mu1 {m : MU} {id : String} {i : Nat} {e : E} {name : Str} {x y : Expr} {apos cpos : Pos} (hm : MtR X id (rMu X.K m)) (slot : Slot "list" name id) (hty : typeOf (.builtin id) = pure (.type "method_descriptor")) (hd : dotOk x = true) (hl : (apos.endLine == cpos.line) = true)
    (hv : PE X x (tE X.K pr W cv (evE cl pr (.var i)))) (ny : notStar y = true) (ha : PA X [y] (tDs X.K pr W cv (evCs cl pr (.cons e .nil)))) : PE X (.Call (.Attribute x name apos) [y] [] cpos) (tE X.K pr W cv (evE cl pr (.mu m i (.cons e .nil)))) :=
  (pe_bm PySem.F.plainAttrs_list slot hty hm hv ha (dot_of hd) (few_of ny rfl (by simp)) hl (star_cons ny)).of fun σ H Q h => go_mu h
theorem mu_insert : MtR X "list.insert" (rMu X.K .insert) := by
  intro pins s σ H x xs v us Q I rx rs ⟨F, a, vs, ys, ds, y, d', e1, hH, ha, hargs, e, q⟩
  match ds, hargs, e with
  | [.int i, d], hargs, e =>
    have e : (if decide (0 ≤ i ∧ i ≤ 100000 ∧ ys.length < 100000) = true then some (PyData.none, PyData.list (ys.take i.toNat ++ [d] ++ ys.drop i.toNat)) else none) = some (y, d') := e
    obtain ⟨hl, e2⟩ := some_if e
    obtain ⟨l1, l2, l3⟩ := of_decide_eq_true hl
    cases e2
    cases hargs with
    | cons hi hargs =>
      cases hargs with
      | cons hw hargs =>
        cases hargs
        cases hi
        refine mt_insert pins s σ H x _ v us Q I rx rs ⟨a, vs, i, _, e1, rfl, hH, by rw [DpAll.length ha, sizeLine_eq]; omega, l1, by omega, q _ _ _ rfl .non ?_⟩
        exact DpAll.append (DpAll.append (DpAll.take _ ha) (.cons hw .nil)) (DpAll.drop _ ha)
theorem gE_mu2 {m : MU} {id : String} {i : Nat} {e e' : E} {name : Str} {x y z : Expr} {apos cpos : Pos} (hm : MtR X id (rMu X.K m)) (slot : Slot "list" name id) (hty : typeOf (.builtin id) = pure (.type "method_descriptor")) (hd : dotOk x = true) (hl : (apos.endLine == cpos.line) = true)
    (hv : PE X x (tE X.K pr W cv (evE cl pr (.var i)))) (ny : notStar y = true) (nz : notStar z = true) (ha : PA X [y, z] (tDs X.K pr W cv (evCs cl pr (.cons e (.cons e' .nil))))) : PE X (.Call (.Attribute x name apos) [y, z] [] cpos) (tE X.K pr W cv (evE cl pr (.mu m i (.cons e (.cons e' .nil))))) :=
  (pe_bm PySem.F.plainAttrs_list slot hty hm hv ha (dot_of hd) (few_of ny (by rw [star_cons nz]; rfl) (by simp)) hl (star_cons ny) (by rw [star_cons nz]; rfl)).of fun σ H Q h => go_mu h
/-! texts -/
theorem DpAll.strs {K : Frag} {F : Hp} : ∀ {ds : List D} {vs : List V} {ns : List Str}, DpAll K F vs ds → strsD ds = some ns → vs = ns.map V.str
  | [], _, _, h, e => by
    cases h
    cases e
    rfl
  | .str i :: r, _, _, h, e => by
    cases h with
    | cons h1 h2 =>
      cases h1
      unfold strsD at e
      obtain ⟨ns, e1, rfl⟩ := Option.map_eq_some_iff.mp e
      rw [DpAll.strs h2 e1]
      rfl
  | .none :: _, _, _, _, e => by cases e
  | .bool _ :: _, _, _, _, e => by cases e
  | .int _ :: _, _, _, _, e => by cases e
  | .list _ :: _, _, _, _, e => by cases e
  | .tuple _ :: _, _, _, _, e => by cases e
  | .dict _ :: _, _, _, _, e => by cases e
theorem DpAll.ofStrs {K : Frag} {F : Hp} : ∀ (ns : List Str), DpAll K F (ns.map V.str) (ns.map PyData.str)
  | [] => .nil
  | i :: r => .cons (.str i) (DpAll.ofStrs r)
def rSm (K : Frag) (m : SM) : V → List V → Hp → VK → Prop := fun x xs H Q => ∃ F s y d z, x = .str s ∧ xs = [y] ∧ Ex F H ∧ RF K F H y d ∧ smop m s d = some z ∧ Res K F H Q z
theorem sm_join : MtR X "str.join" (rSm X.K .join) := by
  intro pins s σ H x xs v us Q I rx rs ⟨F, t, y, d, z, e1, e2, ex, hy, e, q⟩
  subst e1 e2
  cases d with
  | list ys =>
    obtain ⟨ss, es, e⟩ := Option.bind_eq_some_iff.mp (show (strsD ys).bind _ = some z from e)
    obtain ⟨hl, rfl⟩ := some_if e
    have hl := of_decide_eq_true hl
    obtain ⟨p, vs, rfl, h1, h2⟩ := hy.list ex
    obtain rfl := DpAll.strs h2 es
    exact mt_join pins s σ H _ _ v us Q I rx rs ⟨t, p, ss, rfl, rfl, .inl h1, by omega, q.1 _ (.str _)⟩
  | tuple ys =>
    obtain ⟨ss, es, e⟩ := Option.bind_eq_some_iff.mp (show (strsD ys).bind _ = some z from e)
    obtain ⟨hl, rfl⟩ := some_if e
    have hl := of_decide_eq_true hl
    obtain ⟨p, vs, rfl, h1, h2⟩ := hy.tup ex
    obtain rfl := DpAll.strs h2 es
    exact mt_join pins s σ H _ _ v us Q I rx rs ⟨t, p, ss, rfl, rfl, .inr h1.sq, by omega, q.1 _ (.str _)⟩
  | _ => cases e
theorem sm_split : MtR X "str.split" (rSm X.K .split) := by
  intro pins s σ H x xs v us Q I rx rs ⟨F, t, y, d, z, e1, e2, ex, hy, e, q⟩
  subst e1 e2
  cases d with
  | str b =>
    obtain ⟨hl, rfl⟩ := some_if (show (if (!(b.length == 0) && decide (t.length ≤ 100000)) = true then some (RV.fr (.list ((PySem.Txt.split t b).map PyData.str))) else none) = some z from e)
    rw [Bool.and_eq_true] at hl
    have h2 := of_decide_eq_true hl.2
    exact mt_split pins s σ H _ _ v us Q I rx rs ⟨t, b, rfl, by rw [hy.str], by simpa using hl.1, by rw [sizeLine_eq]; omega, fun p hp => q p _ hp (.lst (DpAll.ofStrs _))⟩
  | _ => cases e
theorem sm_startswith : MtR X "str.startswith" (rSm X.K .startswith) := by
  intro pins s σ H x xs v us Q I rx rs ⟨F, t, y, d, z, e1, e2, ex, hy, e, q⟩
  subst e1 e2
  cases d with
  | str b =>
    cases e
    exact mt_startswith pins s σ H _ _ v us Q I rx rs ⟨t, b, rfl, by rw [hy.str], q.1 _ (.bl _)⟩
  | _ => cases e
theorem sm_count : MtR X "str.count" (rSm X.K .count) := by
  intro pins s σ H x xs v us Q I rx rs ⟨F, t, y, d, z, e1, e2, ex, hy, e, q⟩
  subst e1 e2
  cases d with
  | str b =>
    cases e
    exact mt_count pins s σ H _ _ v us Q I rx rs ⟨t, b, rfl, by rw [hy.str], q.1 _ (.int _)⟩
  | _ => cases e
theorem smop_npk {m : SM} {s : Str} {d : D} {z : RV} (e : smop m s d = some z) : ∀ i, z ≠ .pk i := by
  intro i h
  subst h
  unfold smop at e
  split at e <;> first | cases e | skip
  · obtain ⟨ns, _, e⟩ := Option.bind_eq_some_iff.mp e
    have := (some_if e).2
    cases this
  · obtain ⟨ns, _, e⟩ := Option.bind_eq_some_iff.mp e
    have := (some_if e).2
    cases this
  · have := (some_if e).2
    cases this
theorem gE_sm {m : SM} {id : String} {a e : E} {name : Str} {x y : Expr} {apos cpos : Pos} (hm : MtR X id (rSm X.K m)) (slot : Slot "str" name id) (hty : typeOf (.builtin id) = pure (.type "method_descriptor"))
    (ho : PE X x (tE X.K pr W cv (evE cl pr a))) (hd : dotOk x = true) (hl : (apos.endLine == cpos.line) = true) (ny : notStar y = true) (hx : PE X y (tE X.K pr W cv (evE cl pr e))) :
    PE X (.Call (.Attribute x name apos) [y] [] cpos) (tE X.K pr W cv (evE cl pr (.sm m a e))) := by
  refine (pe_bm PySem.F.plainAttrs_str slot hty hm (pe_S ho) (pa_cons (pe_S hx) pa_nil (star_cons ny)) (dot_of hd) (few_of ny rfl (by simp)) hl (star_cons ny)).of fun σ H Q ⟨fm, π, F, r, hR, k⟩ => ?_
  unfold evE at k
  refine ⟨fm, π, F, r, hR, (Go.bind k).imp fun v H1 ⟨F1, r1, u, e1, ⟨hR1, hv⟩, k1⟩ => ?_⟩
  cases q1 : rd r1 u with
  | none => simp only [q1] at k1; exact k1.no.elim
  | some d0 =>
    simp only [q1] at k1
    cases d0 with
    | str t =>
      obtain rfl := (hR1.rf hv q1).str
      refine ⟨rfl, fm, π, F1, r1, hR1, (Go.bind k1).imp fun w H2 ⟨F2, r2, y2, e2, ⟨hR2, hw⟩, k2⟩ => ?_⟩
      cases q2 : rd r2 y2 with
      | none => simp only [q2] at k2; exact k2.no.elim
      | some d =>
        simp only [q2] at k2
        obtain ⟨z, ez, k3⟩ := k2.lift
        exact ⟨F2, t, w, d, z, rfl, rfl, hR2.sub, hR2.rf hw q2, ez, res_of hR2 k3 (smop_npk ez)⟩
    | _ => exact k1.no.elim
/-! f-strings -/
def pStr (K : Frag) (pr : List Nat) (fm : Fm) (π : List Pin) (σ : St) (F : Hp) (r : Ro) (H : Hp) (v : Str) (b : Str) : Prop := R K fm pr π F σ r H ∧ v = b
theorem go_lits {s : Str} {es : Es} {ts : List TE} (ht : ∀ acc σ H (Q : Str → Hp → Prop), tO X.K pr W cv (evFs cl pr es acc) (pStr X.K pr) σ H Q → tJs ts acc σ H Q) {acc : Str} {σ : St} {H : Hp} {Q : Str → Hp → Prop} (q : tO X.K pr W cv (evFs cl pr (.cons (.lit (.str s)) es) acc) (pStr X.K pr) σ H Q) :
    tE X.K pr W cv (evE cl pr (.lit (.str s))) σ H (fun x H1 => ∃ y : Str, x = .str y ∧ (acc ++ y).length ≤ sizeLine ∧ tJs ts (acc ++ y) σ H1 Q) := by
  obtain ⟨fm, π, F, r, hR, k⟩ := q
  unfold evFs at k
  refine ⟨fm, π, F, r, hR, ?_⟩
  unfold evE at k ⊢
  intro v F1 H1 e1 ⟨hR1, hd⟩
  cases hd
  have k := Go.up k e1
  have k : Go X.K pr W cv fm π F1 σ (match txtOf (.fz (.str s)) with
    | some y => if lenOk (acc ++ y).length = true then evFs cl pr es (acc ++ y) r else .no
    | none => .no) (pStr X.K pr fm π σ) Q := k
  have e0 : txtOf (.fz (.str s)) = if lenOk s.length = true then some s else none := rfl
  rw [e0] at k
  cases h1 : lenOk s.length with
  | false => rw [h1, if_neg Bool.false_ne_true] at k; exact k.no.elim
  | true =>
    rw [h1, if_pos rfl] at k
    simp only at k
    cases h2 : lenOk (acc ++ s).length with
    | false => rw [h2, if_neg Bool.false_ne_true] at k; exact k.no.elim
    | true =>
      rw [h2, if_pos rfl] at k
      exact ⟨s, rfl, lenOk_le h2, ht _ σ H1 Q ⟨fm, π, F1, r, hR1, k⟩⟩
theorem go_fmt {e : E} {es : Es} {ts : List TE} (ht : ∀ acc σ H (Q : Str → Hp → Prop), tO X.K pr W cv (evFs cl pr es acc) (pStr X.K pr) σ H Q → tJs ts acc σ H Q) {acc : Str} {σ : St} {H : Hp} {Q : Str → Hp → Prop} (q : tO X.K pr W cv (evFs cl pr (.cons e es) acc) (pStr X.K pr) σ H Q) :
    tFmt (tE X.K pr W cv (evE cl pr e)) σ H (fun x H1 => ∃ y : Str, x = .str y ∧ (acc ++ y).length ≤ sizeLine ∧ tJs ts (acc ++ y) σ H1 Q) := by
  obtain ⟨fm, π, F, r, hR, k⟩ := q
  unfold evFs at k
  refine ⟨fm, π, F, r, hR, (Go.bind k).imp fun v H1 ⟨F1, r1, x, e1, hx, k1⟩ => ?_⟩
  cases q1 : txtOf x with
  | none => simp only [q1] at k1; exact k1.no.elim
  | some y =>
    simp only [q1] at k1
    cases h2 : lenOk (acc ++ y).length with
    | false => rw [h2, if_neg Bool.false_ne_true] at k1; exact k1.no.elim
    | true =>
      rw [h2, if_pos rfl] at k1
      unfold txtOf at q1
      split at q1
      · rename_i i
        obtain ⟨hl, rfl⟩ := some_if q1
        obtain ⟨hR1, hd⟩ := hx
        cases hd
        exact .inr ⟨i, rfl, by have := of_decide_eq_true hl; omega, _, rfl, lenOk_le h2, ht _ σ H1 Q ⟨fm, π, F1, r1, hR1, k1⟩⟩
      · rename_i t
        obtain ⟨hl, rfl⟩ := some_if q1
        obtain ⟨hR1, hd⟩ := hx
        cases hd
        exact .inl ⟨t, rfl, lenOk_le hl, _, rfl, lenOk_le h2, ht _ σ H1 Q ⟨fm, π, F1, r1, hR1, k1⟩⟩
      · cases q1
theorem gE_ext {i : Nat} {e : E} {x y : Expr} {apos cpos : Pos} (hd : dotOk x = true) (hl : (apos.endLine == cpos.line) = true)
    (hv : PE X x (tE X.K pr W cv (evE cl pr (.var i)))) (ny : notStar y = true) (ha : PE X y (tE X.K pr W cv (evE cl pr e))) : PE X (.Call (.Attribute x (Str.ofString "extend") apos) [y] [] cpos) (tE X.K pr W cv (evE cl pr (.ext i e))) := by
  refine (pe_bm PySem.F.plainAttrs_list PySem.F.slot_list_extend PySem.F.type_list_extend mt_extend hv (pa_cons ha pa_nil (star_cons ny)) (dot_of hd) (few_of ny rfl (by simp)) hl (star_cons ny)).of fun σ H Q ⟨fm, π, F, r, hR, k⟩ => ?_
  unfold evE at k
  cases hi : r[i]? with
  | none => simp only [hi] at k; exact k.no.elim
  | some s =>
    simp only [hi] at k
    cases s with
    | ow d =>
      cases d with
      | list xs =>
        simp only at k
        refine ⟨fm, π, F, r, hR, ?_⟩
        unfold evE
        simp only [hi]
        intro v F1 H1 e1 hx
        obtain ⟨hR1, hs⟩ := hx
        obtain ⟨a, vs, h1, h2, h3, _⟩ := hR1.mut hi
        rw [hs] at h1
        cases h1
        refine ⟨.inl ⟨rfl, vs, .inl (.inl h2)⟩, fm, π, F1, r, hR1, (Go.bind (Go.up k e1)).imp fun w H2 ⟨F2, r2, u, e2, hu, k2⟩ => ?_⟩
        show rExtend (.ref a) [w] H2 Q
        cases hi2 : r2[i]? with
        | none => simp only [hi2] at k2; exact k2.no.elim
        | some s2 =>
          simp only [hi2] at k2
          cases s2 with
          | ow d2 =>
            cases d2 with
            | list xs2 =>
              cases q : extItems i u r2 with
              | none => simp only [q] at k2; exact k2.no.elim
              | some ys =>
                simp only [q] at k2
                cases hlen : lenOk (xs2.length + ys.length) with
                | false => rw [hlen, if_neg Bool.false_ne_true] at k2; exact k2.no.elim
                | true =>
                  rw [hlen, if_pos rfl] at k2
                  have hR2 := hu.st
                  obtain ⟨a2, vs2, g1, g2, g3, g4⟩ := hR2.mut hi2
                  rw [hs] at g1
                  cases g1
                  have key : ∃ b zs, w = .ref b ∧ H2 b = some (.lst zs) ∧ DpAll X.K F2 zs ys := by
                    cases u with
                    | fz d => cases q
                    | fr d =>
                      cases d with
                      | list zs =>
                        cases q
                        obtain ⟨p, o, rfl, hP, hc, _⟩ := hu
                        obtain ⟨ws, rfl, hw⟩ := hc.list
                        exact ⟨p, ws, rfl, (hP.pin ⟨none, p, .lst ws⟩ List.mem_cons_self).1, hw⟩
                      | _ => cases q
                    | pk j =>
                      unfold extItems at q
                      simp only at q
                      split at q
                      · cases q
                      · split at q
                        · rename_i hj
                          cases q
                          obtain ⟨b, zs, w1, w2, w3, _⟩ := hR2.mut hj
                          have hs2 : σ[j]? = some (some w) := hu.2
                          rw [hs2] at w1
                          cases w1
                          exact ⟨b, zs, rfl, w2, w3⟩
                        · cases q
                  obtain ⟨b, zs, rfl, hb, hz⟩ := key
                  refine ⟨a, b, vs2, zs, rfl, rfl, g2, hb, by rw [DpAll.length g3, DpAll.length hz]; exact lenOk_le hlen, ?_⟩
                  exact k2.val2 (Ex.refl F2) ⟨g4 _ _ (DpAll.append g3 hz), .non⟩
            | _ => exact k2.no.elim
          | _ => exact k2.no.elim
      | _ => exact k.no.elim
    | _ => exact k.no.elim
end
end Rk

/-! Rk, part K: slots wiped and brought back, locks, targets. -/
namespace Rk
open PySem PySem.Spec PyProof.Rows L2
section
variable {K : Frag} {fm : Fm} {pr : List Nat} {π : List Pin} {F : Hp} {σ : St} {r : Ro} {H : Hp}
theorem R.perm {π' : List Pin} (h : R K fm pr π F σ r H) (e : π.Perm π') : R K fm pr π' F σ r H where
  len := h.len
  sub := h.sub
  fr := h.fr
  old := h.old
  nw := h.nw
  fz := h.fz
  ow := fun i d q => by
    obtain ⟨a, u, h1, h2, h3, h4, h5, h6⟩ := h.ow i d q
    exact ⟨a, u, h1, h2, h3, h4, h5, fun p hp => h6 p (e.mem_iff.mpr hp)⟩
  dist := h.dist
  pin := fun p hp => h.pin p (e.mem_iff.mpr hp)
  pnd := ((e.map Pin.a).nodup_iff).mp h.pnd
  lock := fun p hp => h.lock p (e.mem_iff.mpr hp)
  lks := fun i d q => by
    obtain ⟨p, hp, z⟩ := h.lks i d q
    exact ⟨p, e.mem_iff.mp hp, z⟩
  par := h.par
  par2 := h.par2
  par3 := h.par3
  par4 := h.par4
  lkP := fun p hp => h.lkP p (e.mem_iff.mpr hp)
  kp := h.kp
theorem wipeR_len (r : Ro) : ∀ own : List Nat, (wipeR own r).length = r.length
  | [] => rfl
  | i :: own => by
    show ((wipeR own r).set i .un).length = _
    rw [List.length_set, wipeR_len r own]
theorem wipeR_in {i : Nat} {s : Sl} : ∀ {own : List Nat}, (wipeR own r)[i]? = some s → s ≠ .un → i ∉ own ∧ r[i]? = some s
  | [], h, _ => ⟨by simp, h⟩
  | j :: own, h, n => by
    have h : ((wipeR own r).set j .un)[i]? = some s := h
    by_cases e : j = i
    · subst e
      have hl : j < (wipeR own r).length := by
        have := (List.getElem?_eq_some_iff.mp h).1
        rwa [List.length_set] at this
      rw [getr hl] at h
      cases h
      exact absurd rfl n
    · rw [List.getElem?_set_ne e] at h
      obtain ⟨h1, h2⟩ := wipeR_in h n
      exact ⟨fun z => (List.mem_cons.mp z).elim (fun q => e q.symm) h1, h2⟩
theorem wipeR_out {i : Nat} : ∀ {own : List Nat}, i ∉ own → (wipeR own r)[i]? = r[i]?
  | [], _ => rfl
  | j :: own, h => by
    show ((wipeR own r).set j .un)[i]? = _
    rw [List.getElem?_set_ne (fun z => h (by rw [z]; exact List.mem_cons_self))]
    exact wipeR_out fun z => h (List.mem_cons_of_mem _ z)
theorem noLk_at {own : List Nat} (h : noLk own r = true) {i : Nat} (hi : i ∈ own) (d : D) : r[i]? ≠ some (.lk d) := fun z => by
  have := List.all_eq_true.mp h i hi
  rw [z] at this
  cases this
theorem R.wipe {own : List Nat} (h : R K fm pr π F σ r H) (hp : ∀ i ∈ own, i ∉ pr) (hl : noLk own r = true) : R K fm pr π F (wipe σ own) (wipeR own r) H := by
  have outσ : ∀ {i : Nat} {v : V}, i ∉ own → (L2.wipe σ own)[i]? = σ[i]? := fun {i v} z => wipe_out z
  refine ⟨by rw [wipe_length, wipeR_len]; exact h.len, h.sub, h.fr, h.old, h.nw, fun i d q => ?_, fun i d q => ?_, fun i j d e a q1 q2 q3 q4 => ?_, h.pin, h.pnd, fun p hpp i q => ?_, fun i d q => ?_, fun q hq => ?_, fun q hq d z => ?_, fun q hq i d z1 z2 => ?_, h.par4, h.lkP, fun q hq => ⟨(h.kp q hq).1, by rw [wipe_out (fun z => hp _ z (h.kp q hq).1)]; exact (h.kp q hq).2⟩⟩
  · obtain ⟨n, q⟩ := wipeR_in q (by simp)
    rw [wipe_out n]
    exact h.fz i d q
  · obtain ⟨n, q⟩ := wipeR_in q (by simp)
    rw [wipe_out n]
    exact h.ow i d q
  · obtain ⟨n1, q1⟩ := wipeR_in q1 (by simp)
    obtain ⟨n2, q2⟩ := wipeR_in q2 (by simp)
    rw [wipe_out n1] at q3
    rw [wipe_out n2] at q4
    exact h.dist i j d e a q1 q2 q3 q4
  · obtain ⟨g1, d, g2, g3⟩ := h.lock p hpp i q
    have n : i ∉ own := fun z => noLk_at hl z d g2
    rw [wipe_out n, wipeR_out n]
    exact ⟨g1, d, g2, g3⟩
  · obtain ⟨n, q⟩ := wipeR_in q (by simp)
    exact h.lks i d q
  · obtain ⟨g1, g2, g3⟩ := h.par q hq
    rw [wipe_out fun z => hp _ z g1]
    exact ⟨g1, g2, g3⟩
  · obtain ⟨n, z⟩ := wipeR_in z (by simp)
    exact h.par2 q hq d z
  · obtain ⟨n, z1⟩ := wipeR_in z1 (by simp)
    rw [wipe_out n] at z2
    exact h.par3 q hq i d z1 z2
theorem backR_len (r0 r : Ro) : ∀ own : List Nat, (backR own r0 r).length = r.length
  | [] => rfl
  | i :: own => by
    show ((backR own r0 r).set i _).length = _
    rw [List.length_set, backR_len r0 r own]
theorem backR_out {r0 : Ro} {i : Nat} : ∀ {own : List Nat}, i ∉ own → (backR own r0 r)[i]? = r[i]?
  | [], _ => rfl
  | j :: own, h => by
    show ((backR own r0 r).set j _)[i]? = _
    rw [List.getElem?_set_ne (fun z => h (by rw [z]; exact List.mem_cons_self))]
    exact backR_out fun z => h (List.mem_cons_of_mem _ z)
theorem backR_in {r0 : Ro} {i : Nat} {s : Sl} : ∀ {own : List Nat}, i ∈ own → (backR own r0 r)[i]? = some s → s = r0.getD i .un
  | j :: own, hi, h => by
    have h : ((backR own r0 r).set j (r0.getD j .un))[i]? = some s := h
    by_cases e : j = i
    · subst e
      have hl : j < (backR own r0 r).length := by
        have := (List.getElem?_eq_some_iff.mp h).1
        rwa [List.length_set] at this
      rw [getr hl] at h
      exact (Option.some.inj h).symm
    · rw [List.getElem?_set_ne e] at h
      rcases List.mem_cons.mp hi with z | z
      · exact absurd z.symm e
      · exact backR_in z h
/-- brought back to what was there ahead of the block -/
theorem R.back {own : List Nat} {r0 : Ro} {F0 H0 : Hp} {π0 : List Pin} (h : R K fm pr π F (L2.wipe σ own) r H) (h0 : R K fm pr π0 F0 σ r0 H0) (ex : Ex F0 F) (hw : wipeOk pr own r0 = true) : R K fm pr π F σ (backR own r0 r) H := by
  have ok : ∀ i ∈ own, i ∉ pr ∧ ∀ s, r0.getD i .un = s → s = .un ∨ ∃ d, s = .fz d ∧ r0[i]? = some (.fz d) := fun i hi => by
    have z := List.all_eq_true.mp hw i hi
    rw [Bool.and_eq_true] at z
    refine ⟨by simpa using z.1, fun s e => ?_⟩
    have z2 := z.2
    split at z2
    · rename_i e2
      rw [List.getD_eq_getElem?_getD, e2] at e
      exact .inl e.symm
    · rename_i d e2
      rw [List.getD_eq_getElem?_getD, e2] at e
      exact .inr ⟨d, e.symm, e2⟩
    · cases z2
  have own_un : ∀ i ∈ own, ∀ s, (backR own r0 r)[i]? = some s → s = .un ∨ ∃ d, s = .fz d ∧ r0[i]? = some (.fz d) := fun i hi s e => (ok i hi).2 s (backR_in hi e).symm
  refine ⟨by rw [backR_len, ← h.len, wipe_length], h.sub, h.fr, h.old, h.nw, fun i d q => ?_, fun i d q => ?_, fun i j d e a q1 q2 q3 q4 => ?_, h.pin, h.pnd, fun p hpp i q => ?_, fun i d q => ?_, fun q hq => ?_, fun q hq d z => ?_, fun q hq i d z1 z2 => ?_, h.par4, h.lkP, fun q hq => ⟨(h.kp q hq).1, by have z := (h.kp q hq).2; rw [wipe_out (fun z => (ok _ z).1 (h.kp q hq).1)] at z; exact z⟩⟩
  · by_cases n : i ∈ own
    · rcases own_un i n _ q with z | ⟨d', z, e2⟩
      · cases z
      · cases z
        obtain ⟨v, g1, g2⟩ := h0.fz i d e2
        exact ⟨v, g1, Dp.mono ex _ _ g2⟩
    · rw [backR_out n] at q
      obtain ⟨v, g1, g2⟩ := h.fz i d q
      rw [wipe_out n] at g1
      exact ⟨v, g1, g2⟩
  · by_cases n : i ∈ own
    · rcases own_un i n _ q with z | ⟨d', z, _⟩ <;> cases z
    · rw [backR_out n] at q
      have g := h.ow i d q
      rw [wipe_out n] at g
      exact g
  · have n1 : i ∉ own := fun n => by rcases own_un i n _ q1 with z | ⟨d', z, _⟩ <;> cases z
    have n2 : j ∉ own := fun n => by rcases own_un j n _ q2 with z | ⟨d', z, _⟩ <;> cases z
    rw [backR_out n1] at q1
    rw [backR_out n2] at q2
    exact h.dist i j d e a q1 q2 (by rw [wipe_out n1]; exact q3) (by rw [wipe_out n2]; exact q4)
  · obtain ⟨g1, d, g2, g3⟩ := h.lock p hpp i q
    obtain ⟨g1, n⟩ := wipe_some g1
    exact ⟨g1, d, by rw [backR_out n]; exact g2, g3⟩
  · have n : i ∉ own := fun n => by rcases own_un i n _ q with z | ⟨d', z, _⟩ <;> cases z
    rw [backR_out n] at q
    exact h.lks i d q
  · obtain ⟨g1, g2, g3⟩ := h.par q hq
    exact ⟨g1, (wipe_some g2).1, g3⟩
  · obtain ⟨g1, g2, g3⟩ := h.par q hq
    have n : q.1 ∉ own := (wipe_some g2).2
    rw [backR_out n] at z
    exact h.par2 q hq d z
  · have n : i ∉ own := fun n => by rcases own_un i n _ z1 with z | ⟨d', z, _⟩ <;> cases z
    rw [backR_out n] at z1
    exact h.par3 q hq i d z1 (by rw [wipe_out n]; exact z2)
/-- a slot's own thing is locked -/
theorem R.lock1 (h : R K fm pr π F σ r H) {i : Nat} {d : D} (hi : r[i]? = some (.ow d)) : ∃ a o, σ[i]? = some (some (.ref a)) ∧ H a = some o ∧ R K fm pr (⟨some i, a, o⟩ :: π) F σ (r.set i (.lk d)) H := by
  obtain ⟨a, o, h1, h2, h3, h4, h5, h6⟩ := h.ow i d hi
  have il : i < r.length := (List.getElem?_eq_some_iff.mp hi).1
  refine ⟨a, o, h1, h2, by rw [List.length_set]; exact h.len, h.sub, h.fr, h.old, h.nw, fun j u q => ?_, fun j u q => ?_, fun j k u w b q1 q2 q3 q4 => ?_, fun p hp => ?_, ?_, fun p hp j q => ?_, fun j u q => ?_, h.par, fun q hq d' z => ?_, fun q hq j u z1 z2 => ?_, h.par4, fun p hp j q t ht e => ?_, h.kp⟩
  · have n1 : i ≠ j := fun z => by subst z; rw [getr il] at q; cases q
    rw [List.getElem?_set_ne n1] at q
    exact h.fz j u q
  · have n1 : i ≠ j := fun z => by subst z; rw [getr il] at q; cases q
    rw [List.getElem?_set_ne n1] at q
    obtain ⟨b, u', g1, g2, g3, g4, g5, g6⟩ := h.ow j u q
    refine ⟨b, u', g1, g2, g3, g4, g5, fun p hp => ?_⟩
    rcases List.mem_cons.mp hp with rfl | hp
    · intro z
      have z : a = b := z
      subst z
      exact n1 (h.dist i j d u a hi q h1 g1)
    · exact g6 p hp
  · have n1 : i ≠ j := fun z => by subst z; rw [getr il] at q1; cases q1
    have n2 : i ≠ k := fun z => by subst z; rw [getr il] at q2; cases q2
    rw [List.getElem?_set_ne n1] at q1
    rw [List.getElem?_set_ne n2] at q2
    exact h.dist j k u w b q1 q2 q3 q4
  · rcases List.mem_cons.mp hp with rfl | hp
    · exact ⟨h2, h4, h5⟩
    · exact h.pin p hp
  · rw [List.map_cons, List.nodup_cons]
    refine ⟨fun hm => ?_, h.pnd⟩
    obtain ⟨p, hp, e⟩ := List.mem_map.mp hm
    exact h6 p hp e
  · rcases List.mem_cons.mp hp with rfl | hp
    · cases q
      exact ⟨h1, d, getr il, h3⟩
    · obtain ⟨g1, d', g2, g3⟩ := h.lock p hp j q
      have n1 : i ≠ j := fun z => by subst z; rw [hi] at g2; cases g2
      exact ⟨g1, d', by rw [List.getElem?_set_ne n1]; exact g2, g3⟩
  · by_cases n1 : i = j
    · subst n1
      exact ⟨_, List.mem_cons_self, rfl⟩
    · rw [List.getElem?_set_ne n1] at q
      obtain ⟨p, hp, e⟩ := h.lks j u q
      exact ⟨p, List.mem_cons_of_mem _ hp, e⟩
  · have n1 : i ≠ q.1 := fun y => by rw [y] at il z; rw [getr il] at z; cases z
    rw [List.getElem?_set_ne n1] at z
    exact h.par2 q hq d' z
  · have n1 : i ≠ j := fun y => by subst y; rw [getr il] at z1; cases z1
    rw [List.getElem?_set_ne n1] at z1
    exact h.par3 q hq j u z1 z2
  · rcases List.mem_cons.mp hp with rfl | hp
    · cases q
      exact h.par3 t ht i d hi (by rw [h1, e])
    · exact h.lkP p hp j q t ht e
/-- .. and unlocked -/
theorem R.unlock1 {i : Nat} {a : Addr} {o : HO} (h : R K fm pr (⟨some i, a, o⟩ :: π) F σ r H) : ∃ d, r[i]? = some (.lk d) ∧ R K fm pr π F σ (r.set i (.ow d)) H := by
  obtain ⟨hH, hF, hZ⟩ := h.pin ⟨some i, a, o⟩ List.mem_cons_self
  obtain ⟨h1, d, h2, h3⟩ := h.lock ⟨some i, a, o⟩ List.mem_cons_self i rfl
  have hP := h.lkP ⟨some i, a, o⟩ List.mem_cons_self i rfl
  have il : i < r.length := (List.getElem?_eq_some_iff.mp h2).1
  have np : ∀ p ∈ π, p.a ≠ a := fun p hp z => (List.nodup_cons.mp h.pnd).1 (List.mem_map.mpr ⟨p, hp, z⟩)
  refine ⟨d, h2, by rw [List.length_set]; exact h.len, h.sub, h.fr, h.old, h.nw, fun j u q => ?_, fun j u q => ?_, fun j k u w b q1 q2 q3 q4 => ?_, fun p hp => h.pin p (List.mem_cons_of_mem _ hp), (List.nodup_cons.mp h.pnd).2, fun p hp j q => ?_, fun j u q => ?_, h.par, fun q hq d' z => ?_, fun q hq j u z1 z2 => ?_, h.par4, fun p hp => h.lkP p (List.mem_cons_of_mem _ hp), h.kp⟩
  · have n1 : i ≠ j := fun z => by subst z; rw [getr il] at q; cases q
    rw [List.getElem?_set_ne n1] at q
    exact h.fz j u q
  · by_cases n1 : i = j
    · subst n1
      rw [getr il] at q
      cases q
      exact ⟨a, o, h1, hH, h3, hF, hZ, np⟩
    · rw [List.getElem?_set_ne n1] at q
      obtain ⟨b, u', g1, g2, g3, g4, g5, g6⟩ := h.ow j u q
      exact ⟨b, u', g1, g2, g3, g4, g5, fun p hp => g6 p (List.mem_cons_of_mem _ hp)⟩
  · have apart : ∀ (j : Nat) (u : D), r[j]? = some (.ow u) → σ[j]? ≠ some (some (.ref a)) := fun j u q1 q2 => by
      obtain ⟨b, u', g1, _, _, _, _, g6⟩ := h.ow j u q1
      rw [q2] at g1
      cases g1
      exact g6 ⟨some i, a, o⟩ List.mem_cons_self rfl
    by_cases n1 : i = j
    · by_cases n2 : i = k
      · exact n1.symm.trans n2
      · subst n1
        rw [List.getElem?_set_ne n2] at q2
        rw [h1] at q3
        cases q3
        exact absurd q4 (apart k w q2)
    · by_cases n2 : i = k
      · subst n2
        rw [List.getElem?_set_ne n1] at q1
        rw [h1] at q4
        cases q4
        exact absurd q3 (apart j u q1)
      · rw [List.getElem?_set_ne n1] at q1
        rw [List.getElem?_set_ne n2] at q2
        exact h.dist j k u w b q1 q2 q3 q4
  · obtain ⟨g1, d', g2, g3⟩ := h.lock p (List.mem_cons_of_mem _ hp) j q
    have n1 : i ≠ j := fun z => by
      subst z
      rw [h1] at g1
      injection g1 with g1
      injection g1 with g1
      injection g1 with g1
      exact np p hp g1.symm
    exact ⟨g1, d', by rw [List.getElem?_set_ne n1]; exact g2, g3⟩
  · have n1 : i ≠ j := fun z => by subst z; rw [getr il] at q; cases q
    rw [List.getElem?_set_ne n1] at q
    obtain ⟨p, hp, e⟩ := h.lks j u q
    rcases List.mem_cons.mp hp with rfl | hp
    · cases e
      exact absurd rfl n1
    · exact ⟨p, hp, e⟩
  · have n1 : i ≠ q.1 := fun y => by rw [y] at il z; rw [getr il] at z; cases z
    rw [List.getElem?_set_ne n1] at z
    exact h.par2 q hq d' z
  · by_cases n1 : i = j
    · subst n1
      rw [h1] at z2
      injection z2 with z2
      injection z2 with z2
      injection z2 with z2
      exact hP q hq z2.symm
    · rw [List.getElem?_set_ne n1] at z1
      exact h.par3 q hq j u z1 z2
/-- the slots of l are locked -/
theorem R.locks : ∀ {l : List Nat} {r : Ro} {π : List Pin}, R K fm pr π F σ r H → nodupB l = true → (∀ i ∈ l, ∃ d, r[i]? = some (.ow d)) →
    ∃ pl : List Pin, pl.map Pin.s = l.reverse.map some ∧ (∀ i ∈ l, ∀ a o, σ[i]? = some (some (.ref a)) → H a = some o → ∃ p ∈ pl, p.a = a ∧ p.o = o) ∧ R K fm pr (pl ++ π) F σ (lockR l r) H
  | [], _, _, h, _, _ => ⟨[], rfl, fun i hi => absurd hi (by simp), h⟩
  | i :: l, r, π, h, hn, ho => by
    obtain ⟨n1, n2⟩ := nodupB_cons hn
    obtain ⟨d, hd⟩ := ho i List.mem_cons_self
    obtain ⟨a, o, h1, h2, h3⟩ := h.lock1 hd
    obtain ⟨pl, e1, e2, e3⟩ := R.locks (l := l) h3 n2 fun j hj => by
      obtain ⟨u, hu⟩ := ho j (List.mem_cons_of_mem _ hj)
      exact ⟨u, by rw [List.getElem?_set_ne (fun z => n1 (by rw [z]; exact hj))]; exact hu⟩
    refine ⟨pl ++ [⟨some i, a, o⟩], by rw [List.map_append, e1]; simp, fun j hj b u q1 q2 => ?_, ?_⟩
    · rcases List.mem_cons.mp hj with z | z
      · subst z
        rw [h1] at q1
        cases q1
        rw [h2] at q2
        cases q2
        exact ⟨_, List.mem_append_right _ List.mem_cons_self, rfl, rfl⟩
      · obtain ⟨p, hp, z1, z2⟩ := e2 j z b u q1 q2
        exact ⟨p, List.mem_append_left _ hp, z1, z2⟩
    · unfold lockR
      simp only [hd]
      rw [List.append_assoc]
      exact e3
theorem R.unlocks : ∀ {l : List Nat} {r : Ro} {pl π : List Pin} {F H : Hp} {σ : St}, R K fm pr (pl ++ π) F σ r H → pl.map Pin.s = l.reverse.map some → R K fm pr π F σ (unlockR l r) H
  | [], _, pl, _, _, _, _, h, e => by
    have e : pl = [] := by simpa using e
    subst e
    exact h
  | i :: l, r, pl, π, F, H, σ, h, e => by
    have e : pl.map Pin.s = l.reverse.map some ++ [some i] := by simpa using e
    obtain ⟨p1, p2, rfl, e1, e2⟩ := List.map_eq_append_iff.mp e
    have : ∃ q, p2 = [q] ∧ q.s = some i := by
      match p2, e2 with
      | [], e2 => exact absurd e2 (by simp)
      | [q], e2 => exact ⟨q, rfl, by simpa using e2⟩
      | _ :: _ :: _, e2 => exact absurd e2 (by simp)
    obtain ⟨⟨qs, qa, qo⟩, rfl, e3⟩ := this
    have e3 : qs = some i := e3
    subst e3
    rw [List.append_assoc] at h
    have g := R.unlocks (l := l) h e1
    obtain ⟨d, h1, h2⟩ := R.unlock1 g
    unfold unlockR
    simp only [h1]
    exact h2
end
end Rk

/-! Rk, part Ke: enumerate over a tuple. -/
namespace PySem
open Sem (wp)
open AutoSeq1 (wpAny_loadPart')
theorem rk_enum_new1 {v : Value} {o : Obj} {St : Heap → Prop} (B : Begins v o St) :
    Meets (Builtin.«enumerate.__new__» ⟨[.type "enumerate", v], []⟩) (fun _ Rs s => St s.heap ∧
      Rs (.ok (.ret (.ref (s.heap.push o).objs.size))) { s with heap := (s.heap.push o).push { cls := .type "enumerate", data := .fields #[.none, .bool false, .ref s.heap.objs.size, rawInt 0, .none, .none] } }) :=
  .of_wp fun prog w A Rs s hyp => by
    obtain ⟨hp, g, d, tk, os⟩ := s
    obtain ⟨st, hyp⟩ := hyp
    have hsub := sub_enumerate
    have q1 : ∀ {A' : Around} {E : Value → Shared → Prop} {Q : Value → Shared → Prop}, Q (.ref hp.objs.size) ⟨hp.push o, g, d, tk, os⟩ → wpAny (model prog w) A' (pyIter v) Q E ⟨hp, g, d, tk, os⟩ :=
      fun q => B.iter prog w _ _ ⟨hp, g, d, tk, os⟩ _ st q
    wp_walk using q1
    refine wpAny_stack_any fun stk => wpAny_pure ?_
    split
    · rename_i c _ _ _ _ _
      cases (c == Value.type "enumerate")
      · wp_walk using q1
        exact ⟨_, rfl, hyp⟩
      · wp_walk using q1
        exact ⟨_, rfl, hyp⟩
    · wp_walk using q1
      exact ⟨_, rfl, hyp⟩
theorem rk_call_enum1 {prog : Program} {w : World} {A : Around} {E : Value → Shared → Prop} {s : Shared} {v : Value} {o : Obj} {St : Heap → Prop} {Q : Value → Shared → Prop} (B : Begins v o St) (st : St s.heap)
    (fin : ∀ h', IsEnum h' (s.heap.objs.size + 1) s.heap.objs.size 0 .none → h'.get? s.heap.objs.size = some o → (∀ b u, s.heap.get? b = some u → h'.get? b = some u) → Q (.ref (s.heap.objs.size + 1)) { s with heap := h' }) :
    wpAny (model prog w) A (call (.type "enumerate") [v]) Q E s := by
  refine callType_new F.called_enumerate (by decide) (F.typeCall_enumerate_1 _) (F.newCall_enumerate_1 _) (fun obj => F.args_object_init_2 obj _) F.entry_enumerate_new (rk_enum_new1 B) ⟨st, ?_⟩
  have hz : (s.heap.push o).objs.size = s.heap.objs.size + 1 := Heap.size_push ..
  show _ ∧ _
  rw [hz]
  have he := Heap.get?_push_size (s.heap.push o) (o := { cls := .type "enumerate", data := .fields #[.none, .bool false, .ref s.heap.objs.size, rawInt 0, .none, .none] }) rfl
  rw [hz] at he
  exact ⟨⟨_, he, rfl⟩, fin _ he (Heap.get?_push_of_some _ (Heap.get?_push_size _ B.free)) fun b u x => Heap.get?_push_of_some _ (Heap.get?_push_of_some _ x)⟩
end PySem
namespace Rk
open PySem PySem.Spec PyProof.Rows L2
/-- the tuple at a, each item in a new pair -/
def ItEt (K : Frag) (a : Addr) : L2.It :=
  ⟨fun i H => ∃ (ws : List V) (x : V), SqT K H a ws ∧ ws[i]? = some x, fun i H v H' => ∃ T x, v = .ref T ∧ H T = none ∧ H' = upd H T (.tup [.int (i : Nat), x]) ∧ ∀ ws, SqT K H a ws → ws[i]? = some x, fun i H => ∃ ws : List V, SqT K H a ws ∧ ws.length = i⟩
theorem turn_enT {P : Program} {w : World} {K : Frag} {elts : List Expr} {kk : Nat} {tpos : Pos} (a e it : Addr) :
    Turn P w K (.Tuple elts kk tpos) (ItEt K a) [e, it] e (fun i h => (∃ old, IsEnum h e it ((i : Nat) : Int) old) ∧ h.IsTupleIter it a i ∧ e ≠ it ∧ a ≠ it) where
  mem := by simp
  obj := fun i h st b hb => by
    obtain ⟨⟨old, he⟩, ⟨o, ho, hc, hd⟩, _⟩ := st
    rcases List.mem_cons.mp hb with z | z
    · rw [z]; exact ⟨_, he, fun v q => nomatch q⟩
    · rw [List.mem_singleton.mp z]; exact ⟨o, ho, fun v q => by rw [hd] at q; cases q⟩
  keep := fun i h h' st k => let ⟨⟨old, he⟩, hi, hne⟩ := st; ⟨⟨old, k e (by simp) _ he⟩, hi.at fun o q => k it (by simp) o q, hne⟩
  item := by
    intro X hP hw hK hc i pins s σ H E I hf st hg
    subst hP hw hK
    obtain ⟨⟨old, he⟩, hit, hne, hai⟩ := st
    obtain ⟨ws, x, hq, hx⟩ := hg
    obtain ⟨its, rvs, pt, hz⟩ := I.tuple hq
    obtain ⟨u, hu, ru⟩ := rvs.get hx
    have hel : e < s.heap.objs.size := Heap.lt_size he
    have hil : it < s.heap.objs.size := by obtain ⟨_, q, _⟩ := hit; exact Heap.lt_size q
    have pt' : s.heap.IsTuple a its.toArray := pt
    have hea : e ≠ a := fun z => by
      obtain ⟨o, ho, hcl, _⟩ := id pt'
      rw [← z, he] at ho
      cases ho
      have hcl : Value.type "enumerate" = Value.type "tuple" := hcl
      injection hcl with z2
      exact absurd z2 (by decide)
    have Dr := Draws.tuple (prog := X.prog) (w := X.w) (A := X.A.in1) (I.ok.hd hc) it a hai its.toArray
    refine wpAny_pyNext_enum_itemD Dr he ⟨hit, pt'⟩ (by have := (List.getElem?_eq_some_iff.mp hu).1; simpa using this) hne (fun z => by
      rcases List.mem_cons.mp z with z | z
      · exact hne z
      · exact hea (List.mem_singleton.mp z)) fun y h' tk hy ho hit' hT hsz hk => ?_
    have ey : y = u := by
      have : its.toArray[i]? = some u := by simpa using hu
      rw [this] at hy
      exact (Option.some.inj hy).symm
    subst ey
    refine ⟨_, rfl, wpAny_letOwnedTupleGo_enum (s := { s with heap := h', toks := tk + 1 }) ho fun h'' he' sb => ?_⟩
    have hT2 : h''.get? s.heap.objs.size = some { cls := .type "tuple", data := .seq #[.int i tk, y] } := (sb.2 _ (Nat.ne_of_gt hel)).trans hT
    have new : ObjOk X.prog X.w (upd H s.heap.objs.size (.tup [.int (i : Nat), x])) h'' s.heap.objs.size (.tup [.int (i : Nat), x]) :=
      ⟨by show 2 ≤ sizeLine; decide, [.int i tk, y], .cons ⟨_, rfl⟩ (.cons ru .nil), ⟨_, hT2, rfl, _, rfl⟩⟩
    have I1 : Inv X pins σ (upd H s.heap.objs.size (.tup [.int (i : Nat), x])) { s with heap := h'', toks := tk + 1 } :=
      I.turnedNew (ch := [e, it]) (fun b ob hb q => (sb.2 b (fun z => hb (by simp [z]))).trans (hk b ob (fun z => hb (by simp [z])) (fun z => hb (by simp [z])) q)) hf (Nat.le_refl _) new
    refine ⟨.ref s.heap.objs.size, _, I1, rfl, ⟨_, x, rfl, I.hok.fresh (Nat.le_refl _), rfl, fun ys hys => ?_⟩, ⟨⟨y, ?_⟩, hit'.1.at fun o q => (sb.2 it (Ne.symm hne)).trans q, hne, hai⟩, fun b hb => ?_⟩
    · rw [I.tuple_inj hys hq]; exact hx
    · have e1 : ((i + 1 : Nat) : Int) = (i : Int) + 1 := by omega
      rw [e1]; exact he'
    · have hb' : b < s.heap.objs.size := by
        rcases List.mem_cons.mp hb with z | z
        · rw [z]; exact hel
        · rw [List.mem_singleton.mp z]; exact hil
      rw [upd_ne (Nat.ne_of_lt hb')]
      exact (hf b hb).1
  done := by
    intro X hP hw hK hc i pins s σ H E I hf st hg
    subst hP hw hK
    obtain ⟨⟨old, he⟩, hit, hne, hai⟩ := st
    obtain ⟨ws, hq, hx⟩ := hg
    obtain ⟨its, rvs, pt, hz⟩ := I.tuple hq
    obtain ⟨f0, f1, f2, f3, f4, f5⟩ := hf it (by simp)
    have hl := rvs.length
    have Dr := Draws.tuple (prog := X.prog) (w := X.w) (A := X.A.in1) (I.ok.hd hc) it a hai its.toArray
    have ei : i = its.toArray.size := by simp; omega
    exact wpAny_pyNext_enum_endD Dr he ⟨by rw [← ei]; exact hit, pt⟩ fun h' eb => ⟨rfl, I.turned (t' := s.toks) (fun b o hb q => eb b o hb q) f0 f1 f3 f4 f5⟩
  self := fun A i s Q E st h => let ⟨⟨_, he⟩, _⟩ := st; wpAny_pyIter_enum he h
theorem walk_enT {K : Frag} {a : Addr} {ws : List V} : Walk (ItEt K a) ws.length (fun H => SqT K H a ws) (YPair (fun i => some (.int (i : Nat))) (fun i => ws[i]?)) := by
  refine ⟨fun i _ hi q => ⟨ws, ws[i], q, by simp [hi]⟩, fun _ q => ⟨ws, q, rfl⟩, fun i H v H' _ q y => ?_⟩
  obtain ⟨T, x, h1, h2, h3, h4⟩ := y
  exact ⟨T, .int (i : Nat), x, h1, h2, h3, rfl, h4 ws q⟩
/-- enumerate(v), v a list or a tuple -/
def iEnA (K : Frag) (ta : TA) : L2.TI := fun σ H R => ta σ H fun vs H1 => ∃ a xs, vs = [.ref a] ∧ ((SqL K H1 a xs ∧ R (Ite K a) H1) ∨ (SqT K H1 a xs ∧ R (ItEt K a) H1))
theorem pi_enA {X : Cx} {e : Expr} {ta : TA} {p pos tpos : Pos} {elts : List Expr} {kk : Nat} (hg : Gl X "enumerate") (hm : X.mg "enumerate" = none) (ha : PA X [e] ta) (hs : starEach [e] X.env = [(false, eval e X.env)]) :
    PI X (.Tuple elts kk tpos) (.Call (.Name "enumerate" p) [e] [] pos) (iEnA X.K ta) := by
  refine ⟨fun pins s σ H R I h => ?_⟩
  refine Call_ (ld_blt I hg hm boot_enumerate (PyProof.Rows.callWith_type1 (thn (ha.run pos pins s σ H _ I h) fun us s1 ⟨vs, H1, I1, r1, q1⟩ => ?_) hs rfl))
  obtain ⟨a, xs, ex, q⟩ := q1
  subst ex
  cases r1 with
  | cons r rr =>
    cases rr
    cases r
    have old : ∀ b ∈ [s1.heap.objs.size + 1, s1.heap.objs.size], s1.heap.objs.size ≤ b := fun b hb => by
      rcases List.mem_cons.mp hb with z | z
      · rw [z]; exact Nat.le_add_right _ _
      · rw [List.mem_singleton.mp z]; exact Nat.le_refl _
    rcases q with ⟨hq, q⟩ | ⟨hq, q⟩
    · obtain ⟨its, rvs, pl, hz⟩ := I1.list hq
      refine call_enumerate_list pl.isList fun h' he hit hsz hk => wpAny_pyIter_enum he ?_
      exact ⟨s1.heap.objs.size + 1, [s1.heap.objs.size + 1, s1.heap.objs.size], _, _, H1, rfl, I1.kept (t' := s1.toks) hk, turn_enum a (s1.heap.objs.size + 1) s1.heap.objs.size, ⟨⟨.none, he⟩, hit, Nat.succ_ne_self _⟩, fun b hb => I1.fpOk (old b hb) (I1.hok.fresh (old b hb)), q⟩
    · obtain ⟨its, rvs, pt, hz⟩ := I1.tuple hq
      have pt' : s1.heap.IsTuple a its.toArray := pt
      have hne : a ≠ s1.heap.objs.size := by
        obtain ⟨_, ho, _⟩ := id pt'
        exact Nat.ne_of_lt (Heap.lt_size ho)
      refine rk_call_enum1 (begins_tuple a its.toArray) pt' fun h' he hit hk => wpAny_pyIter_enum he ?_
      exact ⟨s1.heap.objs.size + 1, [s1.heap.objs.size + 1, s1.heap.objs.size], _, _, H1, rfl, I1.kept (t' := s1.toks) hk, turn_enT a (s1.heap.objs.size + 1) s1.heap.objs.size, ⟨⟨.none, he⟩, ⟨_, hit, rfl, rfl⟩, Nat.succ_ne_self _, hne⟩, fun b hb => I1.fpOk (old b hb) (I1.hok.fresh (old b hb)), q⟩
end Rk

/-! Rk, part L: targets, iterators. -/
namespace Rk
open PySem PySem.Spec PyProof.Rows L2
/-- an item: a value, or a pair that was just made -/
def IR (K : Frag) (F : Hp) (H : Hp) (v : V) (d : D) : Prop := Dp K F v d ∨ ∃ T x y d1 d2, v = .ref T ∧ H T = some (.tup [x, y]) ∧ d = .tuple [d1, d2] ∧ Dp K F x d1 ∧ Dp K F y d2
def pairT : Tg → Bool
  | .nm _ => false
  | _ => true
section
variable {X : Cx} {pr : List Nat} {pt : Bool} {W : WX} {cv : String → Value} {cl : Cl} {N : List Str} {sc : Scope}
def gTg (K : Frag) (pr : List Nat) (tg : Tg) : TG := fun v σ H Q => ∃ fm π F r d r', R K fm pr π F σ r H ∧ IR K F H v d ∧ (pairT tg = true ∨ Dp K F v d) ∧ bindT pr tg d r = some r' ∧
  ∀ σ', (∀ j, j ∉ tgSlots tg → σ'[j]? = σ[j]?) → R K fm pr π F σ' r' H → Q σ' H
theorem gTg_imp {K : Frag} {tg : Tg} {v : V} {σ : St} {H : Hp} {Q Q' : St → Hp → Prop} (h : gTg K pr tg v σ H Q) (k : ∀ σ' H', Q σ' H' → Q' σ' H') : gTg K pr tg v σ H Q' := by
  obtain ⟨fm, π, F, r, d, r', h1, h2, h3, h4, h5⟩ := h
  exact ⟨fm, π, F, r, d, r', h1, h2, h3, h4, fun σ' e h => k _ _ (h5 σ' e h)⟩
theorem _root_.L2.PG.of {e : Expr} {t t' : TG} (h : PG X e t) (k : ∀ v σ H Q, t' v σ H Q → t v σ H Q) : PG X e t' := ⟨fun pins s σ H v u Q I r q => h.run pins s σ H v u Q I r (k _ _ _ _ q)⟩
theorem asg_cons {x : Expr} {xs : List Expr} {env : Env} (h : notStar x = true) : assignEach (x :: xs) env = (false, assign x env) :: assignEach xs env := by
  cases x <;> first | rfl | cases h
theorem pg2 {x y : Expr} {k : Nat} {p : Pos} {t u : TG} (hc : X.calm = true) (nx : notStar x = true) (ny : notStar y = true) (hx : PG X x t) (hy : PG X y u) : PG X (.Tuple [x, y] k p) (gTup X.K 2 (gCons t (gCons u gNil))) :=
  pg_tup hc (pgs_cons hx (pgs_cons hy pgs_nil (by rw [asg_cons ny]; rfl)) (by rw [asg_cons nx]; rfl)) (by rw [asg_cons nx, asg_cons ny]; rfl) (by rw [asg_cons nx, asg_cons ny]; rfl)
theorem pg3 {x y z : Expr} {k : Nat} {p : Pos} {t u w : TG} (hc : X.calm = true) (nx : notStar x = true) (ny : notStar y = true) (nz : notStar z = true) (hx : PG X x t) (hy : PG X y u) (hz : PG X z w) : PG X (.Tuple [x, y, z] k p) (gTup X.K 3 (gCons t (gCons u (gCons w gNil)))) :=
  pg_tup hc (pgs_cons hx (pgs_cons hy (pgs_cons hz pgs_nil (by rw [asg_cons nz]; rfl)) (by rw [asg_cons ny]; rfl)) (by rw [asg_cons nx]; rfl)) (by rw [asg_cons nx, asg_cons ny, asg_cons nz]; rfl) (by rw [asg_cons nx, asg_cons ny, asg_cons nz]; rfl)
theorem pg4 {x y z a : Expr} {k : Nat} {p : Pos} {t u w b : TG} (hc : X.calm = true) (nx : notStar x = true) (ny : notStar y = true) (nz : notStar z = true) (na : notStar a = true) (hx : PG X x t) (hy : PG X y u) (hz : PG X z w) (ha : PG X a b) : PG X (.Tuple [x, y, z, a] k p) (gTup X.K 4 (gCons t (gCons u (gCons w (gCons b gNil))))) :=
  pg_tup hc (pgs_cons hx (pgs_cons hy (pgs_cons hz (pgs_cons ha pgs_nil (by rw [asg_cons na]; rfl)) (by rw [asg_cons nz]; rfl)) (by rw [asg_cons ny]; rfl)) (by rw [asg_cons nx]; rfl)) (by rw [asg_cons nx, asg_cons ny, asg_cons nz, asg_cons na]; rfl) (by rw [asg_cons nx, asg_cons ny, asg_cons nz, asg_cons na]; rfl)
theorem pg_or {t : Expr} {g g' : TG} (h : PG X t g) (h' : PG X t g') : PG X t (fun v σ H Q => g v σ H Q ∨ g' v σ H Q) :=
  ⟨fun pins s σ H v u Q I r q => q.elim (h.run pins s σ H v u Q I r) (h'.run pins s σ H v u Q I r)⟩
theorem pg2l {x y : Expr} {k : Nat} {p : Pos} {t u : TG} (hc : X.calm = true) (nx : notStar x = true) (ny : notStar y = true) (hx : PG X x t) (hy : PG X y u) : PG X (.Tuple [x, y] k p) (gUnl X.K 2 (gCons t (gCons u gNil))) :=
  pg_unl hc (pgs_cons hx (pgs_cons hy pgs_nil (by rw [asg_cons ny]; rfl)) (by rw [asg_cons nx]; rfl)) (by rw [asg_cons nx, asg_cons ny]; rfl) (by rw [asg_cons nx, asg_cons ny]; rfl)
/-- a list, by its parts -/
theorem IR.partsL {K : Frag} {F H : Hp} {v : V} {ds : List D} (ex : Ex F H) (h : IR K F H v (.list ds)) : ∃ a vs, v = .ref a ∧ SqL K H a vs ∧ DpAll K F vs ds := by
  rcases h with h | ⟨T, x, y, d1, d2, rfl, hT, e, h1, h2⟩
  · cases h with
    | lst hs ha => exact ⟨_, _, rfl, ex_l ex hs, ha⟩
  · cases e
theorem ckTg_ns {fb : Str → Bool} {tg : Tg} {t : Expr} (h : ckTg N sc fb tg t = true) : notStar t = true := by
  cases t <;> first | rfl | (cases tg <;> simp [ckTg] at h)
/-- a tuple, by its parts -/
theorem IR.parts {K : Frag} {F H : Hp} {v : V} {ds : List D} (ex : Ex F H) (h : IR K F H v (.tuple ds)) : ∃ a vs, v = .ref a ∧ SqT K H a vs ∧ DpAll K F vs ds := by
  rcases h with h | ⟨T, x, y, d1, d2, rfl, hT, e, h1, h2⟩
  · cases h with
    | tup hs ha => exact ⟨_, _, rfl, (ex_q ex hs).sq, ha⟩
  · cases e
    exact ⟨T, _, rfl, .inl (.inl hT), .cons h1 (.cons h2 .nil)⟩
theorem pg_tg (hc : X.calm = true) (hN : X.N.Nodup) (eN : X.N = N) (es : X.env.scope = sc) {fb : Str → Bool} (hf : ∀ x, fb x = true → X.fn x = true ∨ X.env.scope.names.lookup x = some .local) : ∀ {tg : Tg} {t : Expr}, ckTg N sc fb tg t = true → PG X t (gTg X.K pr tg)
  | .nm i, t, h => by
    cases t with
    | Name x p =>
      unfold ckTg at h
      rw [Bool.and_eq_true, Bool.and_eq_true] at h
      obtain ⟨⟨h1, h2⟩, h3⟩ := h
      refine (pg_name hN (by rw [eN]; exact of_decide_eq_true h1) (by rw [es]; exact loc_of h2) (hf x h3)).of fun v σ H Q ⟨fm, π, F, r, d, r', hR, hI, hD, hb, k⟩ => ?_
      rcases hD with hD | hD
      · cases hD
      · exact k _ (fun j hj => List.getElem?_set_ne (fun z => hj (by rw [z]; exact List.mem_cons_self))) (hR.setFz hD hb)
    | _ => simp [ckTg] at h
  | .t2 a b, t, h => by
    match t, h with
    | .Tuple [x, y] k p, h =>
      unfold ckTg at h
      rw [Bool.and_eq_true] at h
      refine (pg_or (pg2 hc (ckTg_ns h.1) (ckTg_ns h.2) (pg_tg hc hN eN es hf h.1) (pg_tg hc hN eN es hf h.2)) (pg2l hc (ckTg_ns h.1) (ckTg_ns h.2) (pg_tg hc hN eN es hf h.1) (pg_tg hc hN eN es hf h.2))).of fun v σ H Q ⟨fm, π, F, r, d, r', hR, hI, hD, hb, k⟩ => ?_
      match d, hb with
      | .list [d1, d2], hb =>
        obtain ⟨r1, b1, b2⟩ := Option.bind_eq_some_iff.mp hb
        obtain ⟨A, vs, rfl, hs, ha⟩ := hI.partsL hR.sub
        cases ha with
        | cons g1 ha =>
          cases ha with
          | cons g2 ha =>
            cases ha
            exact .inr ⟨A, _, rfl, hs, rfl, _, _, rfl, fm, π, F, r, d1, r1, hR, .inl g1, .inr g1, b1, fun σ1 e1 hR1 => ⟨_, _, rfl, fm, π, F, r1, d2, r', hR1, .inl g2, .inr g2, b2, fun σ2 e2 hR2 => ⟨rfl, k σ2 (fun j hj => (e2 j fun z => hj (List.mem_append_right _ z)).trans (e1 j fun z => hj (List.mem_append_left _ z))) hR2⟩⟩⟩
      | .tuple [d1, d2], hb =>
        refine .inl ?_
        obtain ⟨r1, b1, b2⟩ := Option.bind_eq_some_iff.mp hb
        obtain ⟨A, vs, rfl, hs, ha⟩ := hI.parts hR.sub
        cases ha with
        | cons g1 ha =>
          cases ha with
          | cons g2 ha =>
            cases ha
            exact ⟨A, _, rfl, hs, rfl, _, _, rfl, fm, π, F, r, d1, r1, hR, .inl g1, .inr g1, b1, fun σ1 e1 hR1 => ⟨_, _, rfl, fm, π, F, r1, d2, r', hR1, .inl g2, .inr g2, b2, fun σ2 e2 hR2 => ⟨rfl, k σ2 (fun j hj => (e2 j fun z => hj (List.mem_append_right _ z)).trans (e1 j fun z => hj (List.mem_append_left _ z))) hR2⟩⟩⟩
  | .t3 a b c, t, h => by
    match t, h with
    | .Tuple [x, y, z] k p, h =>
      unfold ckTg at h
      rw [Bool.and_eq_true, Bool.and_eq_true] at h
      refine (pg3 hc (ckTg_ns h.1) (ckTg_ns h.2.1) (ckTg_ns h.2.2) (pg_tg hc hN eN es hf h.1) (pg_tg hc hN eN es hf h.2.1) (pg_tg hc hN eN es hf h.2.2)).of fun v σ H Q ⟨fm, π, F, r, d, r', hR, hI, hD, hb, k⟩ => ?_
      match d, hb with
      | .tuple [d1, d2, d3], hb =>
        obtain ⟨r1, b1, hb⟩ := Option.bind_eq_some_iff.mp hb
        obtain ⟨r2, b2, b3⟩ := Option.bind_eq_some_iff.mp hb
        obtain ⟨A, vs, rfl, hs, ha⟩ := hI.parts hR.sub
        cases ha with
        | cons g1 ha =>
          cases ha with
          | cons g2 ha =>
            cases ha with
            | cons g3 ha =>
              cases ha
              exact ⟨A, _, rfl, hs, rfl, _, _, rfl, fm, π, F, r, d1, r1, hR, .inl g1, .inr g1, b1, fun σ1 e1 hR1 => ⟨_, _, rfl, fm, π, F, r1, d2, r2, hR1, .inl g2, .inr g2, b2, fun σ2 e2 hR2 => ⟨_, _, rfl, fm, π, F, r2, d3, r', hR2, .inl g3, .inr g3, b3, fun σ3 e3 hR3 =>
                ⟨rfl, k σ3 (fun j hj => (e3 j fun z => hj (List.mem_append_right _ (List.mem_append_right _ z))).trans ((e2 j fun z => hj (List.mem_append_right _ (List.mem_append_left _ z))).trans (e1 j fun z => hj (List.mem_append_left _ z)))) hR3⟩⟩⟩⟩
  | .t4 a b c e, t, h => by
    match t, h with
    | .Tuple [x, y, z, w] k p, h =>
      unfold ckTg at h
      rw [Bool.and_eq_true, Bool.and_eq_true, Bool.and_eq_true] at h
      refine (pg4 hc (ckTg_ns h.1) (ckTg_ns h.2.1) (ckTg_ns h.2.2.1) (ckTg_ns h.2.2.2) (pg_tg hc hN eN es hf h.1) (pg_tg hc hN eN es hf h.2.1) (pg_tg hc hN eN es hf h.2.2.1) (pg_tg hc hN eN es hf h.2.2.2)).of fun v σ H Q ⟨fm, π, F, r, d, r', hR, hI, hD, hb, k⟩ => ?_
      match d, hb with
      | .tuple [d1, d2, d3, d4], hb =>
        obtain ⟨r1, b1, hb⟩ := Option.bind_eq_some_iff.mp hb
        obtain ⟨r2, b2, hb⟩ := Option.bind_eq_some_iff.mp hb
        obtain ⟨r3, b3, b4⟩ := Option.bind_eq_some_iff.mp hb
        obtain ⟨A, vs, rfl, hs, ha⟩ := hI.parts hR.sub
        cases ha with
        | cons g1 ha =>
          cases ha with
          | cons g2 ha =>
            cases ha with
            | cons g3 ha =>
              cases ha with
              | cons g4 ha =>
                cases ha
                exact ⟨A, _, rfl, hs, rfl, _, _, rfl, fm, π, F, r, d1, r1, hR, .inl g1, .inr g1, b1, fun σ1 e1 hR1 => ⟨_, _, rfl, fm, π, F, r1, d2, r2, hR1, .inl g2, .inr g2, b2, fun σ2 e2 hR2 => ⟨_, _, rfl, fm, π, F, r2, d3, r3, hR2, .inl g3, .inr g3, b3, fun σ3 e3 hR3 =>
                  ⟨_, _, rfl, fm, π, F, r3, d4, r', hR3, .inl g4, .inr g4, b4, fun σ4 e4 hR4 =>
                  ⟨rfl, k σ4 (fun j hj => (e4 j fun z => hj (List.mem_append_right _ (List.mem_append_right _ (List.mem_append_right _ z)))).trans ((e3 j fun z => hj (List.mem_append_right _ (List.mem_append_right _ (List.mem_append_left _ z)))).trans ((e2 j fun z => hj (List.mem_append_right _ (List.mem_append_left _ z))).trans (e1 j fun z => hj (List.mem_append_left _ z))))) hR4⟩⟩⟩⟩⟩

/-! iterators -/
/-- what an iterator gives: the values ds; the slots l are locked meanwhile -/
def pI (K : Frag) (pr : List Nat) (pt : Bool) (fm : Fm) (π : List Pin) (σ : St) (F : Hp) (r : Ro) (H : Hp) (J : L2.It) (z : List D × List Nat) : Prop := R K fm pr π F σ r H ∧
  nodupB z.2 = true ∧ (∀ i ∈ z.2, ∃ d, r[i]? = some (.ow d)) ∧
  ∃ (G : Hp → Prop) (Y : Nat → Hp → V → Hp → Prop), Walk J z.1.length G Y ∧ (∀ H', Ex F H' → (∀ p ∈ π, H' p.a = some p.o) → (∀ i ∈ z.2, ∀ a o, σ[i]? = some (some (.ref a)) → H a = some o → H' a = some o) → G H') ∧
    ∀ i H x H', Y i H x H' → ∃ d, z.1[i]? = some d ∧ ((H' = H ∧ Dp K F x d) ∨ pt = true ∧ ∃ T x1 x2 d1 d2, x = .ref T ∧ H T = none ∧ H' = upd H T (.tup [x1, x2]) ∧ d = .tuple [d1, d2] ∧ Dp K F x1 d1 ∧ Dp K F x2 d2)
abbrev tI (K : Frag) (pr : List Nat) (pt : Bool) (W : WX) (cv : String → Value) (ev : Ro → O (List D × List Nat)) : L2.TI := fun σ H Q => ∃ fm π F r, R K fm pr π F σ r H ∧ Go K pr W cv fm π F σ (ev r) (pI K pr pt fm π σ) Q
theorem _root_.L2.PI.of {tg e : Expr} {t t' : L2.TI} (h : PI X tg e t) (k : ∀ σ H Q, t' σ H Q → t σ H Q) : PI X tg e t' := ⟨fun pins s σ H R I q => h.run pins s σ H R I (k _ _ _ q)⟩
/-- a list, a tuple or a dict, walked -/
def iSeqA (K : Frag) (tl : TE) : L2.TI := fun σ H R => tl σ H fun x H1 => ∃ a, x = .ref a ∧ ((∃ xs, SqL K H1 a xs ∧ R (Itl K a) H1) ∨ (∃ xs, SqT K H1 a xs ∧ R (Itt K a) H1) ∨
  ∃ (e : Addr) (ob : Obj) (es : Array DictEntry) (ep : Nat) (vs : List V) (F : Hp) (ds : List (D × D)), H1 a = some (dO e ob) ∧ DRep K F e ob ds ∧ ob.data = .dict es ep ∧ Paired (fun (en : DictEntry) (x : V) => RelV x en.key) es.toList vs ∧ R (ItD a e ob es) H1)
theorem pi_seqA {tg l : Expr} {tl : TE} (hl : PE X l tl) : PI X tg l (iSeqA X.K tl) := by
  refine ⟨fun pins s σ H R I hyp => ?_⟩
  refine thn (hl.run pins s σ H _ I hyp) fun v s1 ⟨x, H1, I1, rx, a, ex, hq⟩ => ?_
  subst ex
  cases rx
  have step : ∀ b ∈ [s1.heap.objs.size], FpOk X pins H1 b := fun b hb => by
    obtain rfl : b = s1.heap.objs.size := by simpa using hb
    exact I1.fpOk (Nat.le_refl _) (I1.hok.fresh (Nat.le_refl _))
  rcases hq with ⟨xs, hq, q⟩ | ⟨xs, hq, q⟩ | ⟨e, ob, es, ep, vs, F, ds, hd, hr, hdt, hks, q⟩
  · obtain ⟨its, rvs, pl, hz⟩ := I1.list hq
    exact wpAny_pyIter_list pl.isList ⟨s1.heap.objs.size, [s1.heap.objs.size], _, _, H1, rfl, I1.kept (t' := s1.toks) fun b o z => Heap.get?_push_of_some _ z, turn_list a _, ⟨_, Heap.get?_push_size _ rfl, rfl, rfl⟩, step, q⟩
  · obtain ⟨its, rvs, pl, hz⟩ := I1.tuple hq
    exact wpAny_pyIter_tuple (show s1.heap.IsTuple a its.toArray from pl) ⟨s1.heap.objs.size, [s1.heap.objs.size], _, _, H1, rfl, I1.kept (t' := s1.toks) fun b o z => Heap.get?_push_of_some _ z, turn_tuple a _, ⟨_, Heap.get?_push_size _ rfl, rfl, rfl⟩, step, q⟩
  · obtain ⟨rfl, hg⟩ := dO_at I1 hd
    exact iter_keys hr.1 hg hr.2.1 hdt (pi_one (tk := s1.toks) I1 _ (turn_dict _ hdt hks) ⟨_, Heap.get?_push_size _ rfl, rfl, rfl⟩ q)
/-- the list or tuple that is read, and the lock on it -/
theorem R.walkd {fm : Fm} {π : List Pin} {F : Hp} {σ : St} {r : Ro} {H : Hp} {v : V} {x : RV} {d : D} {ds : List D} (h : R X.K fm pr π F σ r H) (hv : Val X.K F σ v x) (e : rd r x = some d) (es : seqD d = some ds) :
    ∃ a vs, v = .ref a ∧ DpAll X.K F vs ds ∧ (∀ i ∈ lockOf r x, ∃ d, r[i]? = some (.ow d)) ∧ nodupB (lockOf r x) = true ∧
      ∀ H', Ex F H' → (∀ p ∈ π, H' p.a = some p.o) → (∀ i ∈ lockOf r x, ∀ a o, σ[i]? = some (some (.ref a)) → H a = some o → H' a = some o) → ((d = .list ds ∧ SqL X.K H' a vs) ∨ (d = .tuple ds ∧ TqT X.K H' a vs)) := by
  have frz : ∀ {v : V}, Dp X.K F v d → ∃ a vs, v = .ref a ∧ DpAll X.K F vs ds ∧ ∀ H', Ex F H' → ((d = .list ds ∧ SqL X.K H' a vs) ∨ (d = .tuple ds ∧ TqT X.K H' a vs)) := fun {v} hd => by
    cases d with
    | list xs =>
      cases es
      cases hd with
      | lst hs ha => exact ⟨_, _, rfl, ha, fun H' ex => .inl ⟨rfl, ex_l ex hs⟩⟩
    | tuple xs =>
      cases es
      cases hd with
      | tup hs ha => exact ⟨_, _, rfl, ha, fun H' ex => .inr ⟨rfl, ex_q ex hs⟩⟩
    | _ => cases es
  cases x with
  | fr d' => exact hv.elim
  | fz d' =>
    cases e
    obtain ⟨a, vs, h1, h2, h3⟩ := frz hv
    exact ⟨a, vs, h1, h2, fun i hi => absurd hi (by simp [lockOf]), rfl, fun H' ex _ _ => h3 H' ex⟩
  | pk i =>
    have hv : σ[i]? = some (some v) := hv
    unfold rd at e
    cases hi : r[i]? with
    | none => simp only [hi] at e; cases e
    | some s =>
      simp only [hi] at e
      cases s with
      | un => cases e
      | fz d' =>
        cases e
        obtain ⟨v', g1, g2⟩ := h.fz i _ hi
        rw [hv] at g1
        cases g1
        obtain ⟨a, vs, h1, h2, h3⟩ := frz g2
        have el : lockOf r (.pk i) = [] := by unfold lockOf; simp only [hi]
        rw [el]
        exact ⟨a, vs, h1, h2, fun i hi => absurd hi (by simp), rfl, fun H' ex _ _ => h3 H' ex⟩
      | ow d' =>
        cases e
        have el : lockOf r (.pk i) = [i] := by unfold lockOf; simp only [hi]
        rw [el]
        obtain ⟨a, o, g1, g2, g3, _⟩ := h.ow i _ hi
        cases d with
        | list xs =>
          cases es
          obtain ⟨vs, rfl, ha⟩ := g3.list
          rw [hv] at g1
          cases g1
          refine ⟨a, vs, rfl, ha, fun j hj => ?_, rfl, fun H' ex _ hk => .inl ⟨rfl, .inl (.inl (hk i List.mem_cons_self a _ hv g2))⟩⟩
          obtain rfl : j = i := by simpa using hj
          exact ⟨_, hi⟩
        | tuple xs => cases g3
        | _ => cases es
      | lk d' =>
        cases e
        have el : lockOf r (.pk i) = [] := by unfold lockOf; simp only [hi]
        rw [el]
        obtain ⟨p, hp, hs⟩ := h.lks i _ hi
        obtain ⟨g1, d2, g2, g3⟩ := h.lock p hp i hs
        rw [hi] at g2
        cases g2
        cases d with
        | list xs =>
          cases es
          obtain ⟨vs, e3, ha⟩ := g3.list
          rw [hv] at g1
          cases g1
          refine ⟨p.a, vs, rfl, ha, fun j hj => absurd hj (by simp), rfl, fun H' ex hpi _ => .inl ⟨rfl, .inl (.inl ?_)⟩⟩
          rw [hpi p hp, e3]
        | tuple xs => exfalso; generalize p.o = o at g3; cases g3
        | _ => cases es
theorem DpAll.at {K : Frag} {F : Hp} {vs : List V} {ds : List D} (h : DpAll K F vs ds) {i : Nat} {x : V} (e : vs[i]? = some x) : ∃ d, ds[i]? = some d ∧ Dp K F x d := DpAll.getV h e
/-- the dict that is read, and the lock on it -/
theorem R.walkD {fm : Fm} {π : List Pin} {F : Hp} {σ : St} {r : Ro} {H : Hp} {v : V} {x : RV} {ds : List (D × D)} (h : R X.K fm pr π F σ r H) (hv : Val X.K F σ v x) (e : rd r x = some (.dict ds)) :
    ∃ a e ob, v = .ref a ∧ H a = some (dO e ob) ∧ DRep X.K F e ob ds ∧ (∀ i ∈ lockOf r x, ∃ d, r[i]? = some (.ow d)) ∧ nodupB (lockOf r x) = true ∧
      ∀ H' : Hp, (∀ p ∈ π, H' p.a = some p.o) → (∀ i ∈ lockOf r x, ∀ a o, σ[i]? = some (some (.ref a)) → H a = some o → H' a = some o) → H' a = some (dO e ob) := by
  cases x with
  | fr d' => exact hv.elim
  | fz d' =>
    cases e
    cases (show Dp X.K F v (.dict ds) from hv)
  | pk i =>
    have hv : σ[i]? = some (some v) := hv
    unfold rd at e
    cases hi : r[i]? with
    | none => simp only [hi] at e; cases e
    | some s =>
      simp only [hi] at e
      cases s with
      | un => cases e
      | fz d' =>
        cases e
        obtain ⟨v', g1, g2⟩ := h.fz i _ hi
        cases g2
      | ow d' =>
        cases e
        have el : lockOf r (.pk i) = [i] := by unfold lockOf; simp only [hi]
        rw [el]
        obtain ⟨a, o, g1, g2, g3, _⟩ := h.ow i _ hi
        rw [hv] at g1
        cases g1
        cases g3 with
        | dc hr =>
          refine ⟨a, _, _, rfl, g2, hr, fun j hj => ?_, rfl, fun H' _ hk => hk i List.mem_cons_self a _ hv g2⟩
          obtain rfl : j = i := by simpa using hj
          exact ⟨_, hi⟩
      | lk d' =>
        cases e
        have el : lockOf r (.pk i) = [] := by unfold lockOf; simp only [hi]
        rw [el]
        obtain ⟨p, hp, hs⟩ := h.lks i _ hi
        obtain ⟨g1, d2, g2, g3⟩ := h.lock p hp i hs
        rw [hi] at g2
        cases g2
        rw [hv] at g1
        cases g1
        have hpin := (h.pin p hp).1
        generalize ho : p.o = o at g3 hpin
        cases g3 with
        | dc hr => exact ⟨p.a, _, _, rfl, hpin, hr, fun j hj => absurd hj (by simp), rfl, fun H' hpi _ => by rw [hpi p hp, ho]⟩
theorem ents_vs {K : Frag} {F : Hp} : ∀ {l : List DictEntry} {m : List (D × D)}, Paired (fun (en : DictEntry) (d : D × D) => ∃ x, RelV x en.key ∧ Dp K F x d.1) l m → ∃ vs : List V, Paired (fun (en : DictEntry) (x : V) => RelV x en.key) l vs
  | _, _, .nil => ⟨[], .nil⟩
  | _, _, .cons ⟨x, h, _⟩ t => by
    obtain ⟨vs, q⟩ := ents_vs t
    exact ⟨x :: vs, .cons h q⟩
theorem relV_dp {K : Frag} {F : Hp} {x y : V} {u : Value} {d : D} (h1 : RelV x u) (h2 : RelV y u) (hd : Dp K F y d) : Dp K F x d := by
  have : x = y := by
    cases hd with
    | non => cases h2; cases x <;> first | rfl | (cases h1; done) | (obtain ⟨_, e⟩ := h1; cases e)
    | bl b => cases h2; cases x <;> first | (cases h1; rfl) | (cases h1; done) | (obtain ⟨_, e⟩ := h1; cases e)
    | int i => obtain ⟨t, rfl⟩ := h2; cases x <;> first | (cases h1; done) | (obtain ⟨_, e⟩ := h1; cases e; done) | (obtain ⟨_, e⟩ := h1; cases e; rfl)
    | str z => obtain ⟨t, rfl⟩ := h2; cases x <;> first | (cases h1; done) | (obtain ⟨_, e⟩ := h1; cases e; done) | (obtain ⟨_, e⟩ := h1; cases e; rfl)
    | lst _ _ => cases h2; cases x <;> first | (cases h1; rfl) | (cases h1; done) | (obtain ⟨_, e⟩ := h1; cases e)
    | tup _ _ => cases h2; cases x <;> first | (cases h1; rfl) | (cases h1; done) | (obtain ⟨_, e⟩ := h1; cases e)
  rw [this]
  exact hd
theorem paired_at {α β : Type} {G : α → β → Prop} : ∀ {l : List α} {m : List β}, Paired G l m → ∀ (i : Nat) (a : α), l[i]? = some a → ∃ b, m[i]? = some b ∧ G a b
  | _, _, .nil, i, a, h => by simp at h
  | _, _, .cons h t, 0, a, h1 => by
    simp at h1
    subst h1
    exact ⟨_, rfl, h⟩
  | _, _, .cons h t, i + 1, a, h1 => by
    obtain ⟨b, g1, g2⟩ := paired_at t i a (by simpa using h1)
    exact ⟨b, by simpa using g1, g2⟩
theorem gI_seq {e : E} {tg x : Expr} (ha : PE X x (tE X.K pr W cv (evE cl pr e))) : PI X tg x (tI X.K pr pt W cv (evI cl pr (.seq e))) := by
  refine (pi_seqA (pe_S ha)).of fun σ H Q ⟨fm, π, F, r, hR, k⟩ => ?_
  unfold evI at k
  refine ⟨fm, π, F, r, hR, (Go.bind k).imp fun v H1 ⟨F1, r1, u, e1, ⟨hR1, hv⟩, k1⟩ => ?_⟩
  have plain : ∀ d ds, rd r1 u = some d → seqD d = some ds → Go X.K pr W cv fm π F1 σ (.ok (ds, lockOf r1 u) r1) (pI X.K pr pt fm π σ) Q → ∃ a, v = .ref a ∧ ((∃ xs, SqL X.K H1 a xs ∧ Q (Itl X.K a) H1) ∨ (∃ xs, SqT X.K H1 a xs ∧ Q (Itt X.K a) H1) ∨
      ∃ (e : Addr) (ob : Obj) (es : Array DictEntry) (ep : Nat) (vs : List V) (F : Hp) (ds : List (D × D)), H1 a = some (dO e ob) ∧ DRep X.K F e ob ds ∧ ob.data = .dict es ep ∧ Paired (fun (en : DictEntry) (x : V) => RelV x en.key) es.toList vs ∧ Q (ItD a e ob es) H1) := fun d ds q1 q2 k1 => by
    obtain ⟨a, vs, rfl, h2, h3, h4, h5⟩ := hR1.walkd hv q1 q2
    have hl := DpAll.length h2
    have now := h5 H1 hR1.sub (fun p hp => (hR1.pin p hp).1) fun i _ b o _ z => z
    refine ⟨a, rfl, ?_⟩
    rcases now with ⟨ed, hs⟩ | ⟨ed, hs⟩
    · refine .inl ⟨vs, hs, k1.val2 (Ex.refl F1) ⟨hR1, h4, h3, fun H => SqL X.K H a vs, YAt vs, by rw [← hl]; exact walk_list, fun H' ex hp hk => ?_, fun i H x H' y => ?_⟩⟩
      · rcases h5 H' ex hp hk with ⟨_, z⟩ | ⟨z, _⟩
        · exact z
        · rw [ed] at z; cases z
      · obtain ⟨d1, g1, g2⟩ := h2.at y.2
        exact ⟨d1, g1, .inl ⟨y.1, g2⟩⟩
    · refine .inr (.inl ⟨vs, hs.sq, k1.val2 (Ex.refl F1) ⟨hR1, h4, h3, fun H => SqT X.K H a vs, YAt vs, by rw [← hl]; exact walk_tup, fun H' ex hp hk => ?_, fun i H x H' y => ?_⟩⟩)
      · rcases h5 H' ex hp hk with ⟨z, _⟩ | ⟨_, z⟩
        · rw [ed] at z; cases z
        · exact z.sq
      · obtain ⟨d1, g1, g2⟩ := h2.at y.2
        exact ⟨d1, g1, .inl ⟨y.1, g2⟩⟩
  cases q1 : rd r1 u with
  | none => simp only [q1] at k1; exact k1.no.elim
  | some d =>
    simp only [q1] at k1
    cases d with
    | list xs => exact plain _ xs q1 rfl k1
    | tuple xs => exact plain _ xs q1 rfl k1
    | dict ds =>
      simp only at k1
      obtain ⟨a, e, ob, rfl, h1, h2, h3, h4, h5⟩ := hR1.walkD hv q1
      obtain ⟨es, ep, hdt, hents⟩ := drep_ents h2
      obtain ⟨vs, hvs⟩ := ents_vs hents
      refine ⟨a, rfl, .inr (.inr ⟨e, ob, es, ep, vs, F1, ds, h1, h2, hdt, hvs, k1.val2 (Ex.refl F1) ⟨hR1, h4, h3, (fun H => H a = some (dO e ob)), (fun i H x H' => H' = H ∧ ∃ en, es[i]? = some en ∧ RelV x en.key), ?_, (fun H' _ hp hk => h5 H' hp hk), (fun i H x H' y => ?_)⟩⟩)⟩
      · have hl : (dKeys ds).length = es.size := by
          unfold dKeys
          rw [List.length_map, ← Paired.length hents, Array.length_toList]
        show Walk _ (dKeys ds).length _ _
        rw [hl]
        exact walk_dict
      · obtain ⟨y1, en, y2, y3⟩ := y
        obtain ⟨p, g1, z, g2, g3⟩ := paired_at hents i en (by rw [Array.getElem?_toList]; exact y2)
        refine ⟨p.1, ?_, .inl ⟨y1, relV_dp y3 g2 g3⟩⟩
        unfold dKeys
        rw [List.getElem?_map, g1]
        rfl
    | none => exact k1.no.elim
    | bool _ => exact k1.no.elim
    | int _ => exact k1.no.elim
    | str _ => exact k1.no.elim
theorem rng_item {K : Frag} {F : Hp} {f : Nat → Int} {n i : Nat} (hi : i < n) : ∃ d, ((List.range n).map fun k : Nat => PyData.int (f k))[i]? = some d ∧ Dp K F (.int (f i)) d := ⟨.int (f i), by simp [hi], .int _⟩
theorem Go.bindE {α γ β δ : Type} {K : Frag} {fm : Fm} {π : List Pin} {F : Hp} {σ : St} {x : O α} {f : α → Ro → O γ} {Pa : Hp → Ro → Hp → β → α → Prop} {P : Hp → Ro → Hp → δ → γ → Prop} {Q : δ → Hp → Prop} (h : Go K pr W cv fm π F σ (x.bind f) P Q) :
    Go K pr W cv fm π F σ x Pa (fun y H1 => ∃ F1 r1 a, Ex F F1 ∧ Pa F1 r1 H1 y a ∧ x = .ok a r1 ∧ Go K pr W cv fm π F1 σ (f a r1) P Q) := by
  cases x with
  | no => exact h
  | ok a r => exact fun v F' H' e p => ⟨F', r, a, e, p, rfl, Go.up (show Go K pr W cv fm π F σ (f a r) P Q from h) e⟩
  | ex c r => exact h
theorem evS_len : ∀ {es : Es} {r r' : Ro} {xs : List RV}, evSs cl pr es r = .ok xs r' → xs.length = esLen es
  | .nil, r, r', xs, h => by
    unfold evSs at h
    cases h
    rfl
  | .cons e es, r, r', xs, h => by
    unfold evSs at h
    cases h1 : stl (evE cl pr e r) with
    | no => rw [h1] at h; cases h
    | ex c r => rw [h1] at h; cases h
    | ok x r1 =>
      rw [h1] at h
      have h : (evSs cl pr es r1).bind (fun xs r => O.ok (x :: xs) r) = .ok xs r' := h
      cases h2 : evSs cl pr es r1 with
      | no => rw [h2] at h; cases h
      | ex c r => rw [h2] at h; cases h
      | ok ys r2 =>
        rw [h2] at h
        cases h
        rw [List.length_cons, evS_len h2]
        rfl
theorem rds_len {r : Ro} : ∀ {xs : List RV} {ds : List D}, rds r xs = some ds → ds.length = xs.length
  | [], _, h => by cases h; rfl
  | x :: xs, _, h => by
    unfold rds at h
    cases h1 : rd r x with
    | none => simp only [h1] at h; cases h
    | some d =>
      cases h2 : rds r xs with
      | none => simp only [h1, h2] at h; cases h
      | some es =>
        simp only [h1, h2] at h
        cases h
        rw [List.length_cons, List.length_cons, rds_len h2]
/-- the items of a range, and its bounds -/
theorem go_rng {es : Es} {σ : St} {H : Hp} {Q : L2.It → Hp → Prop} {Q' : List V → Hp → Prop} (h : tI X.K pr pt W cv (evI cl pr (.rng es)) σ H Q)
    (k : ∀ fm π F1 r1 vs H1 ds items, R X.K fm pr π F1 σ r1 H1 → RFall X.K F1 H1 vs ds → ds.length = esLen es → itemsRng ds = some items →
      (∀ (J : L2.It) (G : Hp → Prop) (Y : Nat → Hp → V → Hp → Prop), Walk J items.length G Y → (∀ H, G H) → (∀ i H x H', i < items.length → Y i H x H' → H' = H ∧ ∃ d, items[i]? = some d ∧ Dp X.K F1 x d) → Q J H1) → Q' vs H1) : tSs X.K pr W cv (evSs cl pr es) σ H Q' := by
  obtain ⟨fm, π, F, r, hR, g⟩ := h
  unfold evI at g
  refine ⟨fm, π, F, r, hR, (Go.bindE g).imp fun vs H1 ⟨F1, r1, us, e1, ⟨hR1, hv⟩, eu, k1⟩ => ?_⟩
  cases q1 : rds r1 us with
  | none => simp only [q1] at k1; exact k1.no.elim
  | some ds =>
    simp only [q1] at k1
    cases q2 : itemsRng ds with
    | none => simp only [q2] at k1; exact k1.no.elim
    | some items =>
      simp only [q2] at k1
      refine k fm π F1 r1 vs H1 ds items hR1 (Vall.rf hR1 hv q1) ((rds_len q1).trans (evS_len eu)) q2 fun J G Y w hG hy => ?_
      refine k1.val2 (Ex.refl F1) ⟨hR1, rfl, fun i hi => absurd hi (by simp), G, fun i H x H' => i < items.length ∧ Y i H x H', w.mono (fun _ z => z) fun i H x H' hi _ y => ⟨hi, y⟩, fun H' _ _ _ => hG H', fun i H x H' y => ?_⟩
      obtain ⟨z, d, z1, z2⟩ := hy i H x H' y.1 y.2
      exact ⟨d, z1, .inl ⟨z, z2⟩⟩
theorem gI_rng1 (g : Good cl cv N sc X) {e : E} {tg x : Expr} {p pos : Pos} (hg : glB sc "range" = true) (nx : notStar x = true) (ha : PA X [x] (tSs X.K pr W cv (evSs cl pr (.cons e .nil)))) :
    PI X tg (.Call (.Name "range" p) [x] [] pos) (tI X.K pr pt W cv (evI cl pr (.rng (.cons e .nil)))) := by
  refine (pi_range1 (g.gl hg) (g.blt "range" (by decide)) ha (star_cons nx)).of fun σ H Q h => go_rng h fun fm π F1 r1 vs H1 ds items hR hF hl q fin => ?_
  match ds, hl with
  | [d], _ =>
    cases d with
    | int j =>
      obtain rfl := RFall.ints1 hF
      obtain ⟨hb, q⟩ := some_if (show (if decide (-100000 ≤ j ∧ j ≤ 100000) then some (rngD 0 j.toNat) else none) = some items from q)
      have hb := of_decide_eq_true hb
      subst q
      have hlen : (rngD 0 j.toNat).length = j.toNat := by unfold rngD; simp
      refine ⟨j, rfl, by omega, by omega, fin (Itr 0 j.toNat) (fun _ => True) (YFn fun i => .int (0 + i)) (by rw [hlen]; exact walk_range (lo := 0)) (fun _ => trivial) fun i H x H' hi y => ⟨y.1, ?_⟩⟩
      rw [hlen] at hi
      rw [y.2]
      exact rng_item (f := fun k => 0 + k) hi
    | _ => cases q
theorem gI_rng2 (g : Good cl cv N sc X) {e e' : E} {tg x x' : Expr} {p pos : Pos} (hg : glB sc "range" = true) (nx : notStar x = true) (nx' : notStar x' = true) (ha : PA X [x, x'] (tSs X.K pr W cv (evSs cl pr (.cons e (.cons e' .nil))))) :
    PI X tg (.Call (.Name "range" p) [x, x'] [] pos) (tI X.K pr pt W cv (evI cl pr (.rng (.cons e (.cons e' .nil))))) := by
  refine (pi_range2 (g.gl hg) (g.blt "range" (by decide)) ha (by rw [star_cons nx, star_cons nx']; rfl) (star_cons nx')).of fun σ H Q h => go_rng h fun fm π F1 r1 vs H1 ds items hR hF hl q fin => ?_
  match ds, hl with
  | [d, d'], _ =>
    cases d with
    | int i =>
      cases d' with
      | int j =>
        obtain rfl := RFall.ints2 hF
        obtain ⟨hb, q⟩ := some_if (show (if decide (-100000 ≤ i ∧ i ≤ 100000 ∧ j ≤ 100000 ∧ -100000 ≤ j) then some (rngD i (j - i).toNat) else none) = some items from q)
        have hb := of_decide_eq_true hb
        subst q
        have hlen : (rngD i (j - i).toNat).length = (j - i).toNat := by unfold rngD; simp
        refine ⟨i, j, rfl, ⟨by omega, by omega, by omega, by omega⟩, fin (Itr i (j - i).toNat) (fun _ => True) (YFn fun k => .int (i + k)) (by rw [hlen]; exact walk_range (lo := i)) (fun _ => trivial) fun k H x H' hk y => ⟨y.1, ?_⟩⟩
        rw [hlen] at hk
        rw [y.2]
        exact rng_item (f := fun k => i + k) hk
      | _ => cases q
    | _ => cases q
theorem RFall.ints3 {K : Frag} {F H : Hp} {vs : List V} {i j k : Int} (h : RFall K F H vs [.int i, .int j, .int k]) : vs = [.int i, .int j, .int k] := by
  match vs, h with
  | [u, v, w], h => rw [RF.int h.1, RF.int h.2.1, RF.int h.2.2.1]
theorem gI_rng3 (g : Good cl cv N sc X) {e e' e2 : E} {tg x x' x2 : Expr} {p pos : Pos} (hg : glB sc "range" = true) (nx : notStar x = true) (nx' : notStar x' = true) (nx2 : notStar x2 = true) (ha : PA X [x, x', x2] (tSs X.K pr W cv (evSs cl pr (.cons e (.cons e' (.cons e2 .nil)))))) :
    PI X tg (.Call (.Name "range" p) [x, x', x2] [] pos) (tI X.K pr pt W cv (evI cl pr (.rng (.cons e (.cons e' (.cons e2 .nil)))))) := by
  refine (pi_range3 (g.gl hg) (g.blt "range" (by decide)) ha (star_cons nx) (by rw [star_cons nx', star_cons nx2]; rfl)).of fun σ H Q h => go_rng h fun fm π F1 r1 vs H1 ds items hR hF hl q fin => ?_
  match ds, hl with
  | [d, d', d2], _ =>
    cases d with
    | int i =>
      cases d' with
      | int j =>
        cases d2 with
        | int c =>
          obtain rfl := RFall.ints3 hF
          obtain ⟨hb, q⟩ := some_if (show (if decide (c = -1 ∧ -100000 ≤ i ∧ i ≤ 100000 ∧ j ≤ 100000 ∧ -100000 ≤ j) then some ((List.range (i - j).toNat).map fun k : Nat => PyData.int (i - k)) else none) = some items from q)
          have hb := of_decide_eq_true hb
          subst q
          obtain ⟨hc, hb⟩ := hb
          subst hc
          have hlen : ((List.range (i - j).toNat).map fun k : Nat => PyData.int (i - k)).length = (i - j).toNat := by simp
          refine ⟨i, j, -1, (i - j).toNat, rfl, RgC.neg (by omega) (by omega) (by omega) (by omega), fin (Itc i (-1) (i - j).toNat) (fun _ => True) (YFn fun k => .int (i + (k : Nat) * -1)) (by rw [hlen]; exact walk_rangeC (lo := i)) (fun _ => trivial) fun k H x H' hk y => ⟨y.1, ?_⟩⟩
          rw [hlen] at hk
          rw [y.2]
          have : i + (k : Int) * -1 = i - k := by omega
          show ∃ d, _ ∧ Dp X.K F1 (V.int (i + (k : Int) * -1)) d
          rw [this]
          exact rng_item (f := fun k => i - k) hk
        | _ => cases q
      | _ => cases q
    | _ => cases q
/-! enumerate, zip -/
theorem enumD_len : ∀ (ds : List D) (k : Nat), (enumD ds k).length = ds.length
  | [], _ => rfl
  | _ :: r, k => congrArg Nat.succ (enumD_len r (k + 1))
theorem enumD_at : ∀ {ds : List D} {k i : Nat} {d : D}, ds[i]? = some d → (enumD ds k)[i]? = some (.tuple [.int ((k + i : Nat) : Int), d])
  | [], _, _, _, h => by simp at h
  | x :: r, k, 0, d, h => by
    simp at h
    subst h
    rfl
  | x :: r, k, i + 1, d, h => by
    have := enumD_at (k := k + 1) (i := i) (d := d) (ds := r) (by simpa using h)
    have e : k + 1 + i = k + (i + 1) := by omega
    rw [e] at this
    simpa [enumD] using this
theorem zipD_len : ∀ (xs ys : List D), (zipD xs ys).length = min xs.length ys.length
  | [], _ => by simp [zipD]
  | _ :: _, [] => by simp [zipD]
  | x :: r, y :: s => by
    simp only [zipD, List.length_cons, zipD_len r s]
    omega
theorem zipD_at : ∀ {xs ys : List D} {i : Nat} {x y : D}, xs[i]? = some x → ys[i]? = some y → (zipD xs ys)[i]? = some (.tuple [x, y])
  | [], _, _, _, _, h, _ => by simp at h
  | _ :: _, [], _, _, _, _, h => by simp at h
  | a :: r, b :: s, 0, x, y, h, h' => by
    simp at h h'
    subst h h'
    rfl
  | a :: r, b :: s, i + 1, x, y, h, h' => by
    have := zipD_at (xs := r) (ys := s) (i := i) (x := x) (y := y) (by simpa using h) (by simpa using h')
    simpa [zipD] using this
theorem gI_enum (g : Good cl cv N sc X) (hpt : pt = true) {e : E} {y : Expr} {elts : List Expr} {kk : Nat} {tpos p pos : Pos} (hg : glB sc "enumerate" = true) (ny : notStar y = true) (ha : PE X y (tE X.K pr W cv (evE cl pr e))) :
    PI X (.Tuple elts kk tpos) (.Call (.Name "enumerate" p) [y] [] pos) (tI X.K pr pt W cv (evI cl pr (.enum e))) := by
  refine (pi_enA (g.gl hg) (g.blt "enumerate" (by decide)) (pa_cons (pe_S ha) pa_nil (star_cons ny)) (star_cons ny)).of fun σ H Q ⟨fm, π, F, r, hR, k⟩ => ?_
  unfold evI at k
  refine ⟨fm, π, F, r, hR, (Go.bind k).imp fun v H1 ⟨F1, r1, u, e1, ⟨hR1, hv⟩, k1⟩ => ?_⟩
  show ∃ a xs, [v] = [V.ref a] ∧ ((SqL X.K H1 a xs ∧ Q (Ite X.K a) H1) ∨ (SqT X.K H1 a xs ∧ Q (ItEt X.K a) H1))
  cases q1 : rd r1 u with
  | none => simp only [q1] at k1; exact k1.no.elim
  | some d =>
    simp only [q1] at k1
    cases q2 : seqD d with
    | none => simp only [q2] at k1; exact k1.no.elim
    | some ds =>
      simp only [q2] at k1
      obtain ⟨a, vs, rfl, h2, h3, h4, h5⟩ := hR1.walkd hv q1 q2
      have hl := DpAll.length h2
      have item : ∀ i H x H', YPair (fun i => some (.int (i : Nat))) (fun i => vs[i]?) i H x H' → ∃ d, (enumD ds 0)[i]? = some d ∧ ((H' = H ∧ Dp X.K F1 x d) ∨ pt = true ∧ ∃ T x1 x2 d1 d2, x = .ref T ∧ H T = none ∧ H' = upd H T (.tup [x1, x2]) ∧ d = .tuple [d1, d2] ∧ Dp X.K F1 x1 d1 ∧ Dp X.K F1 x2 d2) := fun i H x H' y => by
        obtain ⟨T, x1, x2, e2, hT, e3, z1, z2⟩ := y
        cases z1
        obtain ⟨d1, g1, g2⟩ := h2.at z2
        refine ⟨_, enumD_at (k := 0) g1, .inr ⟨hpt, T, _, x2, _, d1, e2, hT, e3, rfl, ?_, g2⟩⟩
        rw [Nat.zero_add]
        exact .int _
      have now := h5 H1 hR1.sub (fun p hp => (hR1.pin p hp).1) fun i _ b o _ z => z
      refine ⟨a, vs, rfl, ?_⟩
      rcases now with ⟨ed, hs⟩ | ⟨ed, hs⟩
      · refine .inl ⟨hs, k1.val2 (Ex.refl F1) ⟨hR1, h4, h3, fun H => SqL X.K H a vs, _, ?_, fun H' ex hp hk => ?_, item⟩⟩
        · show Walk _ (enumD ds 0).length _ _
          rw [enumD_len, ← hl]
          exact walk_enum
        · rcases h5 H' ex hp hk with ⟨_, z⟩ | ⟨z, _⟩
          · exact z
          · rw [ed] at z; cases z
      · refine .inr ⟨hs.sq, k1.val2 (Ex.refl F1) ⟨hR1, h4, h3, fun H => SqT X.K H a vs, _, ?_, fun H' ex hp hk => ?_, item⟩⟩
        · show Walk _ (enumD ds 0).length _ _
          rw [enumD_len, ← hl]
          exact walk_enT
        · rcases h5 H' ex hp hk with ⟨z, _⟩ | ⟨_, z⟩
          · rw [ed] at z; cases z
          · exact z.sq
theorem gI_zip (g : Good cl cv N sc X) (hpt : pt = true) {e e' : E} {y y' : Expr} {elts : List Expr} {kk : Nat} {tpos p pos : Pos} (hg : glB sc "zip" = true) (ny : notStar y = true) (ny' : notStar y' = true) (ha : PE X y (tE X.K pr W cv (evE cl pr e))) (hb : PE X y' (tE X.K pr W cv (evE cl pr e'))) :
    PI X (.Tuple elts kk tpos) (.Call (.Name "zip" p) [y, y'] [] pos) (tI X.K pr pt W cv (evI cl pr (.zip e e'))) := by
  refine (RZ.pi_zipA (g.gl hg) (g.blt "zip" (by decide)) (pa_cons (pe_S ha) (pa_cons (pe_S hb) pa_nil (star_cons ny')) (star_cons ny)) (star_cons ny) (by rw [star_cons ny']; rfl)).of fun σ H Q ⟨fm, π, F, r, hR, k⟩ => ?_
  unfold evI at k
  refine ⟨fm, π, F, r, hR, (Go.bind k).imp fun v H1 ⟨F1, r1, u, e1, ⟨hR1, hv⟩, k1⟩ => ?_⟩
  refine ⟨fm, π, F1, r1, hR1, (Go.bind k1).imp fun w H2 ⟨F2, r2, t, e2, ⟨hR2, hw⟩, k2⟩ => ?_⟩
  show ∃ a b xs ys, [v, w] = [V.ref a, V.ref b] ∧ ((SqL X.K H2 a xs ∧ SqL X.K H2 b ys ∧ Q (Itz X.K a b) H2) ∨ (SqT X.K H2 a xs ∧ SqT X.K H2 b ys ∧ Q (RZ.ItzT X.K a b) H2))
  have hv := hv.mono e2
  cases q1 : rd r2 u with
  | none => simp only [q1] at k2; exact k2.no.elim
  | some d1 =>
    cases q2 : rd r2 t with
    | none => simp only [q1, q2] at k2; cases d1 <;> exact k2.no.elim
    | some d2 =>
      simp only [q1, q2] at k2
      cases d1 with
      | list ds =>
        cases d2 with
        | list es =>
          simp only at k2
          cases hn : nodupB (lockOf r2 u ++ lockOf r2 t) with
          | false => rw [hn, if_neg Bool.false_ne_true] at k2; exact k2.no.elim
          | true =>
            rw [hn, if_pos rfl] at k2
            obtain ⟨a, vs, rfl, h2, h3, h4, h5⟩ := hR2.walkd hv q1 rfl
            obtain ⟨b, ws, rfl, g2, g3, g4, g5⟩ := hR2.walkd hw q2 rfl
            have still : ∀ H', Ex F2 H' → (∀ p ∈ π, H' p.a = some p.o) → (∀ i ∈ lockOf r2 u ++ lockOf r2 t, ∀ a o, σ[i]? = some (some (.ref a)) → H2 a = some o → H' a = some o) → SqL X.K H' a vs ∧ SqL X.K H' b ws := fun H' ex hp hk => by
              refine ⟨?_, ?_⟩
              · rcases h5 H' ex hp (fun i hi => hk i (List.mem_append_left _ hi)) with ⟨_, z⟩ | ⟨z, _⟩
                · exact z
                · cases z
              · rcases g5 H' ex hp (fun i hi => hk i (List.mem_append_right _ hi)) with ⟨_, z⟩ | ⟨z, _⟩
                · exact z
                · cases z
            have now := still H2 hR2.sub (fun p hp => (hR2.pin p hp).1) (fun i _ b o _ z => z)
            refine ⟨a, b, vs, ws, rfl, .inl ⟨now.1, now.2, k2.val2 (Ex.refl F2) ⟨hR2, hn, fun i hi => (List.mem_append.mp hi).elim (h3 i) (g3 i), fun H => SqL X.K H a vs ∧ SqL X.K H b ws, YPair (fun i => vs[i]?) (fun i => ws[i]?), ?_, still, fun i H x H' y => ?_⟩⟩⟩
            · show Walk _ (zipD ds es).length _ _
              exact walk_zip (by rw [zipD_len, DpAll.length h2, DpAll.length g2])
            · obtain ⟨T, x1, x2, e3, hT, e4, z1, z2⟩ := y
              obtain ⟨d1, w1, w2⟩ := h2.at z1
              obtain ⟨d2, w3, w4⟩ := g2.at z2
              exact ⟨_, zipD_at w1 w3, .inr ⟨hpt, T, x1, x2, d1, d2, e3, hT, e4, rfl, w2, w4⟩⟩
        | _ => exact k2.no.elim
      | tuple ds =>
        cases d2 with
        | tuple es =>
          simp only at k2
          obtain ⟨a, vs, rfl, h2, h3, h4, h5⟩ := hR2.walkd hv q1 rfl
          obtain ⟨b, ws, rfl, g2, g3, g4, g5⟩ := hR2.walkd hw q2 rfl
          have nolock : ∀ {x : RV} {xs : List D}, rd r2 x = some (.tuple xs) → (∀ i ∈ lockOf r2 x, ∃ d, r2[i]? = some (.ow d)) → lockOf r2 x = [] := fun {x xs} q hq => by
            cases x with
            | pk i =>
              unfold rd at q
              unfold lockOf
              cases hi : r2[i]? with
              | none => simp only [hi] at q; cases q
              | some s =>
                simp only [hi] at q
                cases s with
                | ow d =>
                  cases q
                  obtain ⟨_, o, _, _, z, _⟩ := hR2.ow i _ hi
                  cases z
                | un => simp only [hi]
                | fz d => simp only [hi]
                | lk d => simp only [hi]
            | _ => rfl
          have still : ∀ H', Ex F2 H' → (∀ p ∈ π, H' p.a = some p.o) → SqT X.K H' a vs ∧ SqT X.K H' b ws := fun H' ex hp => by
            refine ⟨?_, ?_⟩
            · rcases h5 H' ex hp (fun i hi => by rw [nolock q1 h3] at hi; cases hi) with ⟨z, _⟩ | ⟨_, z⟩
              · cases z
              · exact z.sq
            · rcases g5 H' ex hp (fun i hi => by rw [nolock q2 g3] at hi; cases hi) with ⟨z, _⟩ | ⟨_, z⟩
              · cases z
              · exact z.sq
          have now := still H2 hR2.sub (fun p hp => (hR2.pin p hp).1)
          refine ⟨a, b, vs, ws, rfl, .inr ⟨now.1, now.2, k2.val2 (Ex.refl F2) ⟨hR2, rfl, fun i hi => absurd hi (by simp), fun H => SqT X.K H a vs ∧ SqT X.K H b ws, YPair (fun i => vs[i]?) (fun i => ws[i]?), ?_, fun H' ex hp _ => still H' ex hp, fun i H x H' y => ?_⟩⟩⟩
          · show Walk _ (zipD ds es).length _ _
            have hn : (zipD ds es).length = min vs.length ws.length := by rw [zipD_len, DpAll.length h2, DpAll.length g2]
            refine ⟨fun i H hi hq => ?_, fun H hq => ⟨vs, ws, hq.1, hq.2, by omega⟩, fun i H x H' hi hq y => ?_⟩
            · have l1 : i < vs.length := by omega
              have l2 : i < ws.length := by omega
              exact ⟨vs, ws, vs[i], ws[i], hq.1, hq.2, by simp [l1], by simp [l2]⟩
            · obtain ⟨T, x1, x2, e3, hT, e4, z1, z2⟩ := y
              exact ⟨T, x1, x2, e3, hT, e4, z1 vs hq.1, z2 ws hq.2⟩
          · obtain ⟨T, x1, x2, e3, hT, e4, z1, z2⟩ := y
            obtain ⟨d1, w1, w2⟩ := h2.at z1
            obtain ⟨d2, w3, w4⟩ := g2.at z2
            exact ⟨_, zipD_at w1 w3, .inr ⟨hpt, T, x1, x2, d1, d2, e3, hT, e4, rfl, w2, w4⟩⟩
        | _ => exact k2.no.elim
      | _ => exact k2.no.elim
end
end Rk

/-! Rk, part M: comprehensions; every expression. -/
namespace Rk
open PySem PySem.Spec PyProof.Rows L2
theorem wipe_in {σ : St} {j : Nat} (hj : j < σ.length) : ∀ {own : List Nat}, j ∈ own → (L2.wipe σ own)[j]? = some none
  | i :: own, h => by
    show ((L2.wipe σ own).set i none)[j]? = some none
    by_cases e : i = j
    · subst e
      exact getr (by rw [wipe_length]; exact hj)
    · rw [List.getElem?_set_ne e]
      rcases List.mem_cons.mp h with z | z
      · exact absurd z.symm e
      · exact wipe_in hj z
theorem wipe_same {σ σ2 : St} {own : List Nat} (hl : σ2.length = σ.length) (h : ∀ j, j ∉ own → σ2[j]? = (L2.wipe σ own)[j]?) : L2.wipe σ2 own = L2.wipe σ own := by
  refine List.ext_getElem? fun j => ?_
  by_cases hj : j ∈ own
  · by_cases hlt : j < σ.length
    · rw [wipe_in hlt hj, wipe_in (by rw [hl]; exact hlt) hj]
    · rw [List.getElem?_eq_none (by rw [wipe_length, hl]; omega), List.getElem?_eq_none (by rw [wipe_length]; omega)]
  · rw [wipe_out hj]
    exact h j hj
theorem setSl_len {pr : List Nat} {i : Nat} {s : Sl} {r r' : Ro} (e : setSl pr i s r = some r') : r'.length = r.length := by
  obtain ⟨_, _, _, rfl⟩ := setSl_some e
  rw [List.length_set]
theorem bindT_len {pr : List Nat} : ∀ {tg : Tg} {d : D} {r r' : Ro}, bindT pr tg d r = some r' → r'.length = r.length
  | .nm i, d, r, r', h => setSl_len h
  | .t2 a b, d, r, r', h => by
    match d, h with
    | .tuple [x, y], h =>
      obtain ⟨r1, h1, h⟩ := Option.bind_eq_some_iff.mp h
      rw [bindT_len h, bindT_len h1]
    | .list [x, y], h =>
      obtain ⟨r1, h1, h⟩ := Option.bind_eq_some_iff.mp h
      rw [bindT_len h, bindT_len h1]
  | .t3 a b c, d, r, r', h => by
    match d, h with
    | .tuple [x, y, z], h =>
      obtain ⟨r1, h1, h⟩ := Option.bind_eq_some_iff.mp h
      obtain ⟨r2, h2, h⟩ := Option.bind_eq_some_iff.mp h
      rw [bindT_len h, bindT_len h2, bindT_len h1]
  | .t4 a b c e, d, r, r', h => by
    match d, h with
    | .tuple [x, y, z, u], h =>
      obtain ⟨r1, h1, h⟩ := Option.bind_eq_some_iff.mp h
      obtain ⟨r2, h2, h⟩ := Option.bind_eq_some_iff.mp h
      obtain ⟨r3, h3, h⟩ := Option.bind_eq_some_iff.mp h
      rw [bindT_len h, bindT_len h3, bindT_len h2, bindT_len h1]
theorem wipeOk_pr {pr own : List Nat} {r : Ro} (h : wipeOk pr own r = true) : (∀ i ∈ own, i ∉ pr) ∧ noLk own r = true := by
  refine ⟨fun i hi => ?_, List.all_eq_true.mpr fun i hi => ?_⟩
  · have z := List.all_eq_true.mp h i hi
    rw [Bool.and_eq_true] at z
    simpa using z.1
  · have z := List.all_eq_true.mp h i hi
    rw [Bool.and_eq_true] at z
    have z := z.2
    split at z
    · rename_i e
      rw [e]
    · rename_i d e
      rw [e]
    · cases z
theorem drop_at {α : Type} {l : List α} {i : Nat} {x : α} (h : l[i]? = some x) : l.drop i = x :: l.drop (i + 1) := by
  obtain ⟨hi, e⟩ := List.getElem?_eq_some_iff.mp h
  rw [List.drop_eq_getElem_cons hi, e]
section
variable {X : Cx} {pr : List Nat} {W : WX} {cv : String → Value} {cl : Cl} {N : List Str} {sc : Scope}
theorem ownN_snd (N : List Str) (own : List Nat) : (ownN N own).map (·.2) = own := by
  unfold ownN
  rw [List.map_map]
  simp [Function.comp_def]
abbrev W0 : WX := fun _ _ _ _ => False
theorem Good.blk (g : Good cl cv N sc X) (s : Shared) (H : Hp) (scope : Scope) (C : Addr) (cells : List (Str × Addr)) (fp : List Addr) : Good cl cv N (relS scope sc) (X.blk s H scope (compEnvC scope cells C X.env) fp) := by
  refine ⟨g.calm, g.nd, g.eN, ?_, g.hu, g.fns, g.blt, g.gm⟩
  rw [← g.esc]
  rfl
theorem comp_tg (g : Good cl cv N sc X) {tg : Tg} {t : Expr} {scope : Scope} (ht : ckTg N (relS scope sc) (fbIn scope sc) tg t = true) : ∀ (s : Shared) (H : Hp) (C : Addr) (cells : List (Str × Addr)) (fp : List Addr), PG (X.blk s H scope (compEnvC scope cells C X.env) fp) t (gTg X.K pr tg) := fun s H C cells fp => by
  have gb := g.blk s H scope C cells fp
  refine pg_tg (N := N) (sc := relS scope sc) gb.calm gb.nd gb.eN gb.esc (fb := fbIn scope sc) (fun x hx => ?_) ht
  unfold fbIn at hx
  rcases (Bool.or_eq_true _ _).mp hx with z | z
  · exact .inl z
  · right
    rw [gb.esc]
    exact of_decide_eq_true z
theorem comp_blk (g : Good cl cv N sc X) {own : List Nat} {scope : Scope} (hb : blkC N sc scope (ownN N own) = true) : BlkOk X.N X.env.scope scope (ownN N own) := by
  rw [g.eN, g.esc]
  exact blkOk_by hb
theorem fold_of {i : Expr} {env : Env} (h : notSet i = true) (x : Value) : foldedSetIterable i env x = pure x := by
  cases i <;> first | rfl | cases h
theorem go_comp {own : List Nat} {elt : E} {tg : Tg} {it : It} {cs : Es} (hs : (tgSlots tg).all (fun k => own.contains k) = true) {σ : St} {H : Hp} {Q : VK} (h : tE X.K pr W cv (evE cl pr (.comp own elt tg it cs)) σ H Q) :
    tLc (tI X.K pr (pairT tg) W cv (evI cl pr it)) (gTg X.K pr tg) (tT X.K pr W0 cv (evTs cl pr cs)) (tD X.K pr W0 cv fun r => cpo (evE cl pr elt r)) own σ H Q := by
  obtain ⟨fm, π, F, r, hR, k⟩ := h
  unfold evE at k
  refine ⟨fm, π, F, r, hR, (Go.bind k).imp fun J H1 ⟨F1, r1, z, e1, ⟨hR1, hn, ho, G, Y, w, hG, hY⟩, k1⟩ => fun D hD => ?_⟩
  cases hw : wipeOk pr own (lockR z.2 r1) with
  | false => rw [hw, if_neg Bool.false_ne_true] at k1; exact k1.no.elim
  | true =>
    rw [hw, if_pos rfl] at k1
    cases hres : compL pr own tg (evTs cl pr cs) (fun r => cpo (evE cl pr elt r)) z.1 [] (wipeR own (lockR z.2 r1)) with
    | no => rw [hres] at k1; exact k1.no.elim
    | ex c r => rw [hres] at k1; exact k1.no.elim
    | ok accf rf =>
      rw [hres] at k1
      obtain ⟨pl, epl, hpl, hRL⟩ := hR1.locks hn ho
      obtain ⟨wp, wl⟩ := wipeOk_pr hw
      have hRW := hRL.wipe wp wl
      have own_of : ∀ j, j ∉ own → j ∉ tgSlots tg := fun j hj hm => hj (by
        have := List.all_eq_true.mp hs j hm
        simpa using this)
      refine lc_it (σ := σ) (vs := own) (D := D) (Qd := fun H => Q (.ref D) H) (g := gTg X.K pr tg) (tt := tT X.K pr W0 cv (evTs cl pr cs)) (te := tD X.K pr W0 cv fun r => cpo (evE cl pr elt r)) w
        (fun k H => ∃ F' ri acc accV, Ex F1 F' ∧ R X.K fm pr (⟨none, D, .lst accV⟩ :: (pl ++ π)) F' (L2.wipe σ own) ri H ∧ DpAll X.K F' accV acc ∧ compL pr own tg (evTs cl pr cs) (fun r => cpo (evE cl pr elt r)) (z.1.drop k) acc ri = .ok accf rf)
        ⟨F1, _, [], [], Ex.refl F1, hRW.newP hD, .nil, hres⟩ (fun k H _ ⟨F', ri, acc, accV, ex, hRi, _, _⟩ => ?_) (fun k x H H' hk ⟨F', ri, acc, accV, ex, hRi, hacc, hcl⟩ y => ?_) (fun H ⟨F', ri, acc, accV, ex, hRi, hacc, hcl⟩ => ?_)
      · refine hG H (ex.trans hRi.sub) (fun p hp => (hRi.pin p (List.mem_cons_of_mem _ (List.mem_append_right _ hp))).1) fun j hj a o h1 h2 => ?_
        obtain ⟨p, hp, rfl, rfl⟩ := hpl j hj a o h1 h2
        exact (hRi.pin p (List.mem_cons_of_mem _ (List.mem_append_left _ hp))).1
      · obtain ⟨d, hd, hx⟩ := hY k H x H' y
        rw [drop_at hd] at hcl
        unfold compL at hcl
        cases hbt : bindT pr tg d ri with
        | none => simp only [hbt] at hcl; cases hcl
        | some r2 =>
          simp only [hbt] at hcl
          have key : R X.K fm pr (⟨none, D, .lst accV⟩ :: (pl ++ π)) F' (L2.wipe σ own) ri H' ∧ IR X.K F' H' x d ∧ (pairT tg = true ∨ Dp X.K F' x d) := by
            rcases hx with ⟨rfl, hx⟩ | ⟨hpt, T, x1, x2, d1, d2, rfl, hT, rfl, rfl, h1, h2⟩
            · have := Dp.mono ex _ _ hx
              exact ⟨hRi, .inl this, .inr this⟩
            · exact ⟨hRi.grow hT, .inr ⟨T, x1, x2, d1, d2, rfl, upd_same, rfl, Dp.mono ex _ _ h1, Dp.mono ex _ _ h2⟩, .inl hpt⟩
          obtain ⟨hRk, hIR, hpd⟩ := key
          refine ⟨fm, _, F', ri, d, r2, hRk, hIR, hpd, hbt, fun σ2 e2 hR2 => ?_⟩
          have hσ2 : L2.wipe σ2 own = L2.wipe σ own := wipe_same (by rw [hR2.len, bindT_len hbt, ← hRi.len, wipe_length]) fun j hj => e2 j (own_of j hj)
          refine ⟨hσ2, ?_⟩
          cases htest : evTs cl pr cs r2 with
          | no => simp only [htest] at hcl; cases hcl
          | ex c r => simp only [htest] at hcl; cases hcl
          | ok b r3 =>
            simp only [htest] at hcl
            refine ⟨fm, _, F', r2, hR2, ?_⟩
            rw [htest]
            rintro _ F2 H3 e3 ⟨hR3, rfl⟩
            rename_i b
            cases b with
            | false =>
              rw [if_neg Bool.false_ne_true]
              simp only at hcl
              cases hnl : noLk own r3 with
              | false => rw [hnl, if_neg Bool.false_ne_true] at hcl; cases hcl
              | true =>
                rw [hnl, if_pos rfl] at hcl
                have g1 := hR3.wipe wp hnl
                rw [hσ2] at g1
                exact ⟨F2, _, acc, accV, ex.trans e3, g1, DpAll.mono e3 _ _ hacc, hcl⟩
            | true =>
              rw [if_pos rfl]
              simp only at hcl
              refine ⟨fm, _, F2, r3, hR3, ?_⟩
              cases helt : cpo (evE cl pr elt r3) with
              | no => simp only [helt] at hcl; cases hcl
              | ex c r => simp only [helt] at hcl; cases hcl
              | ok yd r4 =>
                simp only [helt] at hcl
                show Go _ _ _ _ _ _ _ _ (cpo (evE cl pr elt r3)) _ _
                rw [helt]
                rintro yv F3 H4 e4 ⟨hR4, hy⟩
                cases hnl : (lenOk acc.length && noLk own r4) with
                | false => rw [hnl, if_neg Bool.false_ne_true] at hcl; cases hcl
                | true =>
                  rw [hnl, if_pos rfl] at hcl
                  rw [Bool.and_eq_true] at hnl
                  have hpin := (hR4.pin ⟨none, D, .lst accV⟩ List.mem_cons_self).1
                  have g1 := (hR4.change (o' := .lst (accV ++ [yv]))).wipe wp hnl.2
                  rw [hσ2] at g1
                  exact ⟨accV, hpin, by rw [DpAll.length hacc]; exact lenOk_lt hnl.1, F3, _, acc ++ [yd], accV ++ [yv], (ex.trans e3).trans e4, g1, DpAll.append (DpAll.mono (e3.trans e4) _ _ hacc) (.cons hy .nil), hcl⟩
      · rw [List.drop_length] at hcl
        cases hcl
        have g1 := hRi.back hRL ex hw
        have g2 := g1.perm (π' := pl ++ (⟨none, D, .lst accV⟩ :: π)) List.perm_middle.symm
        exact k1.val2 ex ⟨D, .lst accV, rfl, g2.unlocks epl, .lst hacc, hR1.parN hD⟩
theorem gE_comp (g : Good cl cv N sc X) {own : List Nat} {elt : E} {tg : Tg} {it : It} {cs : Es} {y t i : Expr} {ifs : List Expr} {scope : Scope} {pos : Pos}
    (hb : blkC N sc scope (ownN N own) = true) (hs : (tgSlots tg).all (fun k => own.contains k) = true) (ht : ckTg N (relS scope sc) (fbIn scope sc) tg t = true) (ni : notSet i = true)
    (hi : PI X t i (tI X.K pr (pairT tg) W cv (evI cl pr it)))
    (hc : ∀ (s : Shared) (H : Hp) (C : Addr) (cells : List (Str × Addr)) (fp : List Addr), PTs (X.blk s H scope (compEnvC scope cells C X.env) fp) ifs (tT X.K pr W0 cv (evTs cl pr cs)))
    (he : ∀ (s : Shared) (H : Hp) (C : Addr) (cells : List (Str × Addr)) (fp : List Addr), PE (X.blk s H scope (compEnvC scope cells C X.env) fp) y (tE X.K pr W0 cv (evE cl pr elt))) :
    PE X (.ListComp y [⟨t, i, ifs, 0⟩] scope pos) (tE X.K pr W cv (evE cl pr (.comp own elt tg it cs))) := by
  refine (pe_lc (te := tD X.K pr W0 cv fun r => cpo (evE cl pr elt r)) g.calm g.nd hi (comp_blk g hb) (comp_tg (pr := pr) g ht) hc (fun s H C cells fp => pe_C (he s H C cells fp)) (fun x => fold_of ni x)).of fun σ H Q h => ?_
  rw [ownN_snd]
  exact go_comp hs h
/-- name = [..] on one line -/
theorem gS_setLc (g : Good cl cv N sc X) {own : List Nat} {elt : E} {tg : Tg} {it : It} {cs : Es} {y t i : Expr} {ifs : List Expr} {scope : Scope} {pos spos py : Pos} {k : Nat} {nm : Str}
    (hk : N[k]? = some nm) (hl : sc.names.lookup nm = some .local) (hsw : swapsWith (.ListComp y [⟨t, i, ifs, 0⟩] scope pos) (some (.Name nm py)) spos.line X.env = pure true)
    (hb : blkC N sc scope (ownN N own) = true) (hs : (tgSlots tg).all (fun k => own.contains k) = true) (ht : ckTg N (relS scope sc) (fbIn scope sc) tg t = true) (ni : notSet i = true)
    (hi : PI X t i (tI X.K pr (pairT tg) W cv (evI cl pr it)))
    (hc : ∀ (s : Shared) (H : Hp) (C : Addr) (cells : List (Str × Addr)) (fp : List Addr), PTs (X.blk s H scope (compEnvC scope cells C X.env) fp) ifs (tT X.K pr W0 cv (evTs cl pr cs)))
    (he : ∀ (s : Shared) (H : Hp) (C : Addr) (cells : List (Str × Addr)) (fp : List Addr), PE (X.blk s H scope (compEnvC scope cells C X.env) fp) y (tE X.K pr W0 cv (evE cl pr elt))) :
    PS X (.Assign [.Name nm py] (.ListComp y [⟨t, i, ifs, 0⟩] scope pos) spos) (tAsg (tE X.K pr W cv (evE cl pr (.comp own elt tg it cs))) (gName k)) := by
  have h := ps_setLc (te := tD X.K pr W0 cv fun r => cpo (evE cl pr elt r)) (i := k) g.calm g.nd (by rw [g.eN]; exact hk) (by rw [g.esc]; exact hl) hsw hi (comp_blk g hb) (comp_tg (pr := pr) g ht) hc (fun s H C cells fp => pe_C (he s H C cells fp)) (fun x => fold_of ni x)
  refine ⟨fun pins s σ H D I q => h.run pins s σ H D I ?_⟩
  show tLc _ _ _ _ _ σ H _
  rw [ownN_snd]
  exact go_comp hs q
/-! list(range(..)) -/
theorem gE_lrng1 (g : Good cl cv N sc X) {e : E} {x : Expr} {p p2 pos pos2 : Pos} (hg1 : glB sc "list" = true) (hg : glB sc "range" = true) (nx : notStar x = true) (ha : PE X x (tE X.K pr W cv (evE cl pr e))) :
    PE X (.Call (.Name "list" p2) [.Call (.Name "range" p) [x] [] pos] [] pos2) (tE X.K pr W cv (evE cl pr (.lrng (.cons e .nil)))) := by
  refine (pe_listRg g.calm (g.gl hg1) (g.blt "list" (by decide)) (prg_1 (g.gl hg) (g.blt "range" (by decide)) (pe_S ha) (star_cons nx)) rfl).of fun σ H Q ⟨fm, π, F, r, hR, k⟩ => ?_
  unfold evE evSs evSs at k
  show tS X.K pr W cv (fun r => stl (evE cl pr e r)) σ H fun x H1 => ∃ n, x = .int n ∧ RgOk 0 n ∧ ∀ q, H1 q = none → Q (.ref q) (upd H1 q (.lst (rgV 0 n)))
  refine ⟨fm, π, F, r, hR, ?_⟩
  have k : Go X.K pr W cv fm π F σ ((stl (evE cl pr e r)).bind fun x r => match rds r [x] with
    | some ds => (match itemsRng ds with
      | some items => O.ok (RV.fr (.list items)) r
      | none => .no)
    | none => .no) (pX X.K pr fm π σ) Q := by
    cases h : stl (evE cl pr e r) with
    | no => rw [h] at k; exact k
    | ex c r => rw [h] at k; exact k
    | ok x r => rw [h] at k; exact k
  refine (Go.bind k).imp fun v H1 ⟨F1, r1, u, e1, ⟨hR1, hv⟩, k1⟩ => ?_
  cases q1 : rd r1 u with
  | none => simp only [rds, q1] at k1; exact k1.no.elim
  | some d =>
    simp only [rds, q1] at k1
    cases d with
    | int j =>
      cases q2 : itemsRng [.int j] with
      | none => simp only [q2] at k1; exact k1.no.elim
      | some items =>
        simp only [q2] at k1
        obtain ⟨hb, q0⟩ := some_if (show (if decide (-100000 ≤ j ∧ j ≤ 100000) then some (rngD 0 j.toNat) else none) = some items from q2)
        have hb := of_decide_eq_true hb
        refine ⟨j, (hR1.rf hv q1).int, ⟨by omega, by omega, by omega, by omega, by omega⟩, fun q hq => k1.val2 (Ex.refl F1) ⟨q, _, rfl, hR1.newP hq, .lst ?_, hR1.parN hq⟩⟩
        rw [← q0]
        have := rgV_D (K := X.K) (F := F1) 0 j
        rw [Int.sub_zero] at this
        exact this
    | _ => exact k1.no.elim
theorem gE_lrng2 (g : Good cl cv N sc X) {e e' : E} {x x' : Expr} {p p2 pos pos2 : Pos} (hg1 : glB sc "list" = true) (hg : glB sc "range" = true) (nx : notStar x = true) (nx' : notStar x' = true) (ha : PE X x (tE X.K pr W cv (evE cl pr e))) (ha' : PE X x' (tE X.K pr W cv (evE cl pr e'))) :
    PE X (.Call (.Name "list" p2) [.Call (.Name "range" p) [x, x'] [] pos] [] pos2) (tE X.K pr W cv (evE cl pr (.lrng (.cons e (.cons e' .nil))))) := by
  refine (pe_listRg g.calm (g.gl hg1) (g.blt "list" (by decide)) (prg_2 (g.gl hg) (g.blt "range" (by decide)) (pe_S ha) (pe_S ha') (by rw [star_cons nx, star_cons nx']) (star_cons nx') (by rw [star_cons nx']; rfl)) rfl).of fun σ H Q ⟨fm, π, F, r, hR, k⟩ => ?_
  unfold evE evSs evSs evSs at k
  show tS X.K pr W cv (fun r => stl (evE cl pr e r)) σ H fun x H1 => tS X.K pr W cv (fun r => stl (evE cl pr e' r)) σ H1 fun y H2 => ∃ m n, x = .int m ∧ y = .int n ∧ RgOk m n ∧ ∀ q, H2 q = none → Q (.ref q) (upd H2 q (.lst (rgV m n)))
  refine ⟨fm, π, F, r, hR, ?_⟩
  have k : Go X.K pr W cv fm π F σ ((stl (evE cl pr e r)).bind fun x r => (stl (evE cl pr e' r)).bind fun y r => match rds r [x, y] with
    | some ds => (match itemsRng ds with
      | some items => O.ok (RV.fr (.list items)) r
      | none => .no)
    | none => .no) (pX X.K pr fm π σ) Q := by
    cases h : stl (evE cl pr e r) with
    | no => rw [h] at k; exact k
    | ex c r => rw [h] at k; exact k
    | ok x r1 =>
      rw [h] at k
      dsimp only [O.bind] at k ⊢
      cases h2 : stl (evE cl pr e' r1) with
      | no => rw [h2] at k; exact k
      | ex c r => rw [h2] at k; exact k
      | ok y r2 => rw [h2] at k; exact k
  refine (Go.bind k).imp fun v H1 ⟨F1, r1, u, e1, ⟨hR1, hv⟩, k1⟩ => ?_
  refine ⟨fm, π, F1, r1, hR1, (Go.bind k1).imp fun v2 H2 ⟨F2, r2, u2, e2, ⟨hR2, hv2⟩, k2⟩ => ?_⟩
  have hv := hv.mono e2
  cases q1 : rd r2 u with
  | none => simp only [rds, q1] at k2; exact k2.no.elim
  | some d =>
    cases q1' : rd r2 u2 with
    | none => simp only [rds, q1, q1'] at k2; exact k2.no.elim
    | some d2 =>
      simp only [rds, q1, q1'] at k2
      cases d with
      | int i =>
        cases d2 with
        | int j =>
          cases q2 : itemsRng [.int i, .int j] with
          | none => simp only [q2] at k2; exact k2.no.elim
          | some items =>
            simp only [q2] at k2
            obtain ⟨hb, q0⟩ := some_if (show (if decide (-100000 ≤ i ∧ i ≤ 100000 ∧ j ≤ 100000 ∧ -100000 ≤ j) then some (rngD i (j - i).toNat) else none) = some items from q2)
            have hb := of_decide_eq_true hb
            refine ⟨i, j, (hR2.rf hv q1).int, (hR2.rf hv2 q1').int, ⟨by omega, by omega, by omega, by omega, by omega⟩, fun q hq => k2.val2 (Ex.refl F2) ⟨q, _, rfl, hR2.newP hq, .lst ?_, hR2.parN hq⟩⟩
            rw [← q0]
            exact rgV_D (K := X.K) (F := F2) i j
        | _ => exact k2.no.elim
      | _ => exact k2.no.elim
def rgDn (a b : Int) : List V := (List.range (a - b).toNat).map fun i => V.int (a - (i : Nat))
theorem vals_dn {a b : Int} {acc : Array Value} (h : ItemsOf (fun i v => ∃ t, v = .int (a + i * -1) t) acc (a - b).toNat) : Vals (rgDn a b) acc.toList := by
  have e : acc.toList.length = (a - b).toNat := by rw [Array.length_toList]; exact h.1
  unfold rgDn
  rw [← e]
  refine vals_of_get acc.toList _ fun j u hj => ?_
  obtain ⟨t, rfl⟩ := h.2 j u (by rw [← hj, Array.getElem?_toList])
  exact ⟨t, by
    congr 1
    omega⟩
theorem rgDn_D {K : Frag} {F : Hp} (i j : Int) : DpAll K F (rgDn i j) ((List.range (i - j).toNat).map fun k : Nat => PyData.int (i - k)) := by
  unfold rgDn
  generalize (i - j).toNat = n
  generalize List.range n = L
  induction L with
  | nil => exact .nil
  | cons x L ih => exact .cons (.int _) ih
theorem pe_listRg3 {X : Cx} {a b c : Expr} {ta : TA} {p p2 pos pos2 : Pos} (hc : X.calm = true) (hg1 : Gl X "list") (hm1 : X.mg "list" = none) (hg : Gl X "range") (hm : X.mg "range" = none) (ha : PA X [a, b, c] ta)
    (hs : starEach [a, b, c] X.env = (false, eval a X.env) :: starEach [b, c] X.env) (hpl : (backTo pos (starEach [b, c] X.env)).any (·.1) = false)
    (na : starEach [.Call (.Name "range" p) [a, b, c] [] pos] X.env = (false, eval (.Call (.Name "range" p) [a, b, c] [] pos) X.env) :: starEach [] X.env := by rfl) :
    PE X (.Call (.Name "list" p2) [.Call (.Name "range" p) [a, b, c] [] pos] [] pos2) (fun σ H Q => ta σ H fun vs H1 => ∃ i j, vs = [.int i, .int j, .int (-1)] ∧ (-100000 ≤ i ∧ i ≤ 100000 ∧ j ≤ 100000 ∧ -100000 ≤ j) ∧ ∀ q, H1 q = none → Q (.ref q) (upd H1 q (.lst (rgDn i j)))) := by
  refine ⟨fun pins s σ H Q I h => ?_⟩
  refine Call_ (ld_blt I hg1 hm1 boot_list (PyProof.Rows.callWith_type1 (args_cons (Call_ (ld_blt I hg hm boot_range (PyProof.Rows.callWith_type1 (thn (ha.run pos pins s σ H _ I h) fun us s1 ⟨vs, H1, I1, r1, q1⟩ => ?_) hs hpl))) na) na rfl))
  obtain ⟨i, j, e, ⟨b1, b2, b3, b4⟩, q⟩ := q1
  subst e
  cases r1 with
  | cons r rr =>
    cases rr with
    | cons r' rr =>
      cases rr with
      | cons r'' rr =>
        cases rr
        obtain ⟨t, rfl⟩ := r
        obtain ⟨t', rfl⟩ := r'
        obtain ⟨t'', rfl⟩ := r''
        refine call_range_3 (by decide) ?_ (.inl (PyProof.noPylong_small (by decide)))
        refine args_nil ?_
        have I2 : Inv X pins σ H1 { s1 with heap := s1.heap.push { cls := .type "range", data := .fields #[.int i t, .int j t', .int (-1) t''] } } := I1.kept (t' := s1.toks) fun b o e => Heap.get?_push_of_some _ e
        refine call_list_range (n := (i - j).toNat) (I2.ok.hd hc) (IsRange.new ..) (PySem.W.small_down (by omega) (by omega) (by omega) (by omega)) (PySem.W.rangeSize_downNat i j) (by omega) fun h' tk acc c' hk e' hi => ?_
        refine ⟨.ref _, upd H1 _ (.lst (rgDn i j)), I2.laid hk (Nat.le_refl _) (show ObjOk X.prog X.w _ _ _ (.lst (rgDn i j)) from ⟨?_, acc.toList, c', vals_dn hi, ?_⟩), rfl, q _ (I2.hok.fresh (Nat.le_refl _))⟩
        · unfold rgDn
          rw [List.length_map, List.length_range, sizeLine_eq]
          omega
        · rw [Array.toArray_toList]; exact e'
theorem gE_lrng3 (g : Good cl cv N sc X) {e e' e2 : E} {x x' x2 : Expr} {p p2 pos pos2 : Pos} (hg1 : glB sc "list" = true) (hg : glB sc "range" = true) (nx : notStar x = true) (nx' : notStar x' = true) (nx2 : notStar x2 = true) (ha : PA X [x, x', x2] (tSs X.K pr W cv (evSs cl pr (.cons e (.cons e' (.cons e2 .nil)))))) :
    PE X (.Call (.Name "list" p2) [.Call (.Name "range" p) [x, x', x2] [] pos] [] pos2) (tE X.K pr W cv (evE cl pr (.lrng (.cons e (.cons e' (.cons e2 .nil)))))) := by
  refine (pe_listRg3 g.calm (g.gl hg1) (g.blt "list" (by decide)) (g.gl hg) (g.blt "range" (by decide)) ha (star_cons nx) (by rw [star_cons nx', star_cons nx2]; rfl) rfl).of fun σ H Q ⟨fm, π, F, r, hR, k⟩ => ?_
  unfold evE at k
  refine ⟨fm, π, F, r, hR, (Go.bindE k).imp fun vs H1 ⟨F1, r1, us, e1, ⟨hR1, hv⟩, eu, k1⟩ => ?_⟩
  cases q1 : rds r1 us with
  | none => simp only [q1] at k1; exact k1.no.elim
  | some ds =>
    simp only [q1] at k1
    cases q2 : itemsRng ds with
    | none => simp only [q2] at k1; exact k1.no.elim
    | some items =>
      simp only [q2] at k1
      have hF := Vall.rf hR1 hv q1
      have hl := (rds_len q1).trans (evS_len eu)
      match ds, hl with
      | [d, d', d2], _ =>
        cases d with
        | int i =>
          cases d' with
          | int j =>
            cases d2 with
            | int c =>
              obtain rfl := RFall.ints3 hF
              obtain ⟨hb, q0⟩ := some_if (show (if decide (c = -1 ∧ -100000 ≤ i ∧ i ≤ 100000 ∧ j ≤ 100000 ∧ -100000 ≤ j) then some ((List.range (i - j).toNat).map fun k : Nat => PyData.int (i - k)) else none) = some items from q2)
              obtain ⟨hc, hb2⟩ := of_decide_eq_true hb
              subst hc
              refine ⟨i, j, rfl, hb2, fun q hq => k1.val2 (Ex.refl F1) ⟨q, _, rfl, hR1.newP hq, .lst ?_, hR1.parN hq⟩⟩
              rw [← q0]
              exact rgDn_D i j
            | _ => cases q2
          | _ => cases q2
        | _ => cases q2
end
end Rk

/-! Rk, part N: every expression that is looked at does what the evaluator says. -/
namespace Rk
open PySem PySem.Spec PyProof.Rows L2
def boolX : Expr → Bool
  | .BoolOp _ _ _ => true
  | _ => false
section
variable {pr : List Nat} {cv : String → Value} {cl : Cl} {N : List Str}
abbrev pTT (X : Cx) (pr : List Nat) (W : WX) (cv : String → Value) (cl : Cl) (e : E) : TT := tT X.K pr W cv fun r => (evE cl pr e r).bind asBool
/-- what is shown of an expression -/
structure SE (X : Cx) (pr : List Nat) (W : WX) (cv : String → Value) (cl : Cl) (e : E) (x : Expr) : Prop where
  pe : PE X x (tE X.K pr W cv (evE cl pr e))
  pt : okT e = true → PT X x (pTT X pr W cv cl e)
  pw : okT e = true → boolX x = true → PW X x (pTT X pr W cv cl e)
structure SEs (X : Cx) (pr : List Nat) (W : WX) (cv : String → Value) (cl : Cl) (es : Es) (xs : List Expr) : Prop where
  ps : PA X xs (tSs X.K pr W cv (evSs cl pr es))
  pd : PA X xs (tDs X.K pr W cv (evCs cl pr es))
  pa : PA X xs (tAs X.K pr W cv (evAs cl pr es))
theorem SE.plain {X : Cx} {W : WX} {e : E} {x : Expr} (h : PE X x (tE X.K pr W cv (evE cl pr e))) (hp : plainT x = true) : SE X pr W cv cl e x :=
  ⟨h, fun _ => gT_plain hp h, fun _ hb => by cases x <;> first | (cases hb; done) | (cases hp; done)⟩
theorem and2 {a b : Bool} (h : (a && b) = true) : a = true ∧ b = true := (Bool.and_eq_true _ _).mp h
theorem lit_int {sc : Scope} {i : Int} {y : Expr} (h : ckE N sc (.lit (.int i)) y = true) : ∃ j p, y = .Constant (.int i) j p := by
  unfold ckE at h
  split at h <;> first | (exact absurd h Bool.false_ne_true) | skip
  all_goals (rename_i heq; cases heq)
  rename_i c j p
  unfold litOk at h
  split at h <;> first | (exact absurd h Bool.false_ne_true) | skip
  all_goals (rename_i heq; cases heq)
  obtain rfl := of_decide_eq_true h
  exact ⟨_, _, rfl⟩
theorem gE_most {X : Cx} {W : WX} {sc : Scope} (g : Good cl cv N sc X) {a : E} {x : Str} {p : Pos} (h : (mostE a && mostB N sc x) = true) : PE X (.Name x p) (tE X.K pr W cv (evE cl pr (.neg a))) := by
  obtain ⟨h1, h2⟩ := and2 h
  unfold mostB at h2
  obtain ⟨h2, h3⟩ := and2 h2
  obtain ⟨h2, h4⟩ := and2 h2
  obtain rfl := of_decide_eq_true h2
  unfold mostE at h1
  split at h1
  · obtain rfl := of_decide_eq_true h1
    obtain ⟨v, u, hm, hv, hd⟩ := g.gm ("MOST", "0MOST", .int 6) (by simp [cstTab]) (of_decide_eq_true h3)
    refine (pe_glob (g.gl h4) hm hv).of fun σ H Q ⟨fm, π, F, r, hR, k⟩ => ?_
    have e : evE cl pr (.neg (.lit (.int (-6)))) r = .ok (.fz (.int 6)) r := by
      simp [evE, O.bind]
    rw [e] at k
    exact go_fz k hR (hd F)
  · cases h1
theorem name_of {X : Cx} {W : WX} {sc : Scope} (g : Good cl cv N sc X) {i : Nat} {x : Str} {p : Pos} (h : (decide (N[i]? = some x) && visB sc x && okName x) = true) : PE X (.Name x p) (tE X.K pr W cv (evE cl pr (.var i))) := by
  obtain ⟨h, h3⟩ := and2 h
  obtain ⟨h1, h2⟩ := and2 h
  exact gE_var g (of_decide_eq_true h1) h2 h3
theorem pts0 {X : Cx} {W : WX} : PTs X [] (tT X.K pr W cv (evTs cl pr .nil)) :=
  ⟨fun pins s σ H Q I h => pts_nil.run pins s σ H Q I (by
    obtain ⟨fm, π, F, r, hR, k⟩ := h
    unfold evTs at k
    exact k.val ⟨hR, rfl⟩)⟩
theorem cks_head {sc : Scope} {es : Es} {x : Expr} {xs : List Expr} (h : ckEs N sc es (x :: xs) = true) : notStar x = true := by
  cases es with
  | nil => simp [ckEs] at h
  | cons e es =>
    unfold ckEs at h
    exact ck_notStar (and2 h).1
theorem cks_tail {sc : Scope} {es : Es} {x : Expr} {xs : List Expr} {env : Env} {pos : Pos} (h : ckEs N sc es (x :: xs) = true) : (backTo pos (starEach xs env)).any (·.1) = false := by
  cases es with
  | nil => simp [ckEs] at h
  | cons e es =>
    unfold ckEs at h
    exact cks_star (and2 h).2
theorem ckI_notSet {sc : Scope} {it : It} {i t : Expr} (h : ckI N sc it i t = true) : notSet i = true := by
  cases it with
  | seq e =>
    unfold ckI at h
    exact ck_notSet h
  | _ => cases i <;> first | rfl | (simp [ckI] at h)
theorem pair_of {sc : Scope} {fb : Str → Bool} {tg : Tg} {es : List Expr} {k : Nat} {p : Pos} (h : ckTg N sc fb tg (.Tuple es k p) = true) : pairT tg = true := by
  cases tg with
  | nm i => simp [ckTg] at h
  | _ => rfl
theorem and_of {X : Cx} {W : WX} {sc : Scope} {a b : E} {x y : Expr} {r : List Expr} {p : Pos} (ha : SE X pr W cv cl a x) (hb : ∀ x, ckE N sc b x = true → SE X pr W cv cl b x) (h2 : (match r with
    | [] => ckE N sc b y
    | _ => ckE N sc b (.BoolOp .And (y :: r) p)) = true) : SE X pr W cv cl (.and a b) (.BoolOp .And (x :: y :: r) p) := by
  cases r with
  | nil =>
    have hb := hb _ h2
    have w : okT (.and a b) = true → PW X (.BoolOp .And [x, y] p) (pTT X pr W cv cl (.and a b)) := fun o => gT_and2 (ha.pt (and2 o).1) (pw_and1 (hb.pt (and2 o).2))
    exact ⟨gE_and2 ha.pe hb.pe, fun o => (w o).pt, fun o _ => w o⟩
  | cons z zs =>
    have hb := hb _ h2
    have w : okT (.and a b) = true → PW X (.BoolOp .And (x :: y :: z :: zs) p) (pTT X pr W cv cl (.and a b)) := fun o => gT_and3 (ha.pt (and2 o).1) (hb.pw (and2 o).2 rfl)
    exact ⟨gE_and3 ha.pe hb.pe, fun o => (w o).pt, fun o _ => w o⟩
theorem or_of {X : Cx} {W : WX} {sc : Scope} {a b : E} {x y : Expr} {r : List Expr} {p : Pos} (ha : SE X pr W cv cl a x) (hb : ∀ x, ckE N sc b x = true → SE X pr W cv cl b x) (h2 : (match r with
    | [] => ckE N sc b y
    | _ => ckE N sc b (.BoolOp .Or (y :: r) p)) = true) : SE X pr W cv cl (.or a b) (.BoolOp .Or (x :: y :: r) p) := by
  cases r with
  | nil =>
    have hb := hb _ h2
    have w : okT (.or a b) = true → PW X (.BoolOp .Or [x, y] p) (pTT X pr W cv cl (.or a b)) := fun o => gT_or2 (ha.pt (and2 o).1) (pw_or1 (hb.pt (and2 o).2))
    exact ⟨gE_or2 ha.pe hb.pe, fun o => (w o).pt, fun o _ => w o⟩
  | cons z zs =>
    have hb := hb _ h2
    have w : okT (.or a b) = true → PW X (.BoolOp .Or (x :: y :: z :: zs) p) (pTT X pr W cv cl (.or a b)) := fun o => gT_or3 (ha.pt (and2 o).1) (hb.pw (and2 o).2 rfl)
    exact ⟨gE_or3 ha.pe hb.pe, fun o => (w o).pt, fun o _ => w o⟩
theorem rng_of {X : Cx} {W : WX} {sc : Scope} (g : Good cl cv N sc X) {es : Es} {ys : List Expr} {t : Expr} {pt : Bool} {p pos : Pos} (h : ckEs N sc es ys = true) (hl : 1 ≤ ys.length ∧ ys.length ≤ 3) (hg : glB sc "range" = true) (hs : PA X ys (tSs X.K pr W cv (evSs cl pr es))) :
    PI X t (.Call (.Name "range" p) ys [] pos) (tI X.K pr pt W cv (evI cl pr (.rng es))) := by
  cases ys with
  | nil => simp at hl
  | cons x ys =>
    cases es with
    | nil => simp [ckEs] at h
    | cons e es =>
      unfold ckEs at h
      have q1 := (and2 h).1
      have g1 := (and2 h).2
      clear h
      cases ys with
      | nil =>
        cases es with
        | cons _ _ => simp [ckEs] at g1
        | nil => exact gI_rng1 g hg (ck_notStar q1) hs
      | cons x2 ys =>
        cases es with
        | nil => simp [ckEs] at g1
        | cons e2 es =>
          unfold ckEs at g1
          have q2 := (and2 g1).1
          have g2 := (and2 g1).2
          clear g1
          cases ys with
          | nil =>
            cases es with
            | cons _ _ => simp [ckEs] at g2
            | nil => exact gI_rng2 g hg (ck_notStar q1) (ck_notStar q2) hs
          | cons x3 ys =>
            cases es with
            | nil => simp [ckEs] at g2
            | cons e3 es =>
              unfold ckEs at g2
              have q3 := (and2 g2).1
              have g3 := (and2 g2).2
              clear g2
              cases ys with
              | nil =>
                cases es with
                | cons _ _ => simp [ckEs] at g3
                | nil => exact gI_rng3 g hg (ck_notStar q1) (ck_notStar q2) (ck_notStar q3) hs
              | cons x4 ys =>
                have := hl.2
                simp only [List.length_cons] at this
                omega
theorem tup_of {t : Expr} (h : isTupX t = true) : ∃ es k p, t = .Tuple es k p := by
  cases t <;> first | exact ⟨_, _, _, rfl⟩ | cases h
mutual
theorem sE {X : Cx} {W : WX} {sc : Scope} (g : Good cl cv N sc X) (tk : L2N.Takes X W) : ∀ (e : E) (x : Expr), ckE N sc e x = true → SE X pr W cv cl e x
  | .var i, x, h => by
    unfold ckE at h
    split at h <;> first | (exact absurd h Bool.false_ne_true) | skip
    all_goals (rename_i heq; cases heq)
    exact .plain (name_of g h) rfl
  | .lit d, x, h => by
    unfold ckE at h
    split at h <;> first | (exact absurd h Bool.false_ne_true) | skip
    all_goals (rename_i heq; cases heq)
    exact .plain (gE_lit h) rfl
  | .bin op a b, x, h => by
    unfold ckE at h
    split at h <;> first | (exact absurd h Bool.false_ne_true) | skip
    all_goals (rename_i heq; cases heq)
    obtain ⟨h0, h1⟩ := and2 h
    obtain ⟨h1, h2⟩ := and2 h1
    obtain rfl := of_decide_eq_true h0
    exact .plain (gE_bin (sE g tk a _ h1).pe (sE g tk b _ h2).pe) rfl
  | .neg a, x, h => by
    unfold ckE at h
    split at h <;> first | (exact absurd h Bool.false_ne_true) | skip
    all_goals (rename_i heq; cases heq)
    · exact .plain (gE_neg (sE g tk a _ h).pe) rfl
    · exact .plain (gE_most g h) rfl
  | .cmp op a b, x, h => by
    unfold ckE at h
    split at h <;> first | (exact absurd h Bool.false_ne_true) | skip
    all_goals (rename_i heq; cases heq)
    obtain ⟨h0, h1⟩ := and2 h
    obtain ⟨h1, h2⟩ := and2 h1
    obtain rfl := of_decide_eq_true h0
    have ha := (sE g tk a _ h1).pe
    have hb := (sE g tk b _ h2).pe
    exact ⟨gE_cmp g (ck_notSet h2) ha hb, fun _ => gT_cmp g (ck_notSet h2) ha hb, fun _ z => by cases z⟩
  | .chain op op' a b c, x, h => by
    unfold ckE at h
    split at h <;> first | (exact absurd h Bool.false_ne_true) | skip
    all_goals (rename_i heq; cases heq)
    obtain ⟨h0, h1⟩ := and2 h
    obtain ⟨h1, h2⟩ := and2 h1
    obtain ⟨h2, h3⟩ := and2 h2
    obtain ⟨h0, h5⟩ := and2 h0
    obtain rfl := of_decide_eq_true h0
    obtain rfl := of_decide_eq_true h5
    have ha := (sE g tk a _ h1).pe
    have hb := (sE g tk b _ h2).pe
    have hc := (sE g tk c _ h3).pe
    exact ⟨gE_chain g (ck_notSet h3) ha hb hc, fun _ => gT_chain g (ck_notSet h3) ha hb hc, fun _ z => by cases z⟩
  | .and a b, x, h => by
    unfold ckE at h
    split at h <;> first | (exact absurd h Bool.false_ne_true) | skip
    all_goals (rename_i heq; cases heq)
    obtain ⟨h1, h2⟩ := and2 h
    exact and_of (sE g tk a _ h1) (fun x hx => sE g tk b x hx) h2
  | .or a b, x, h => by
    unfold ckE at h
    split at h <;> first | (exact absurd h Bool.false_ne_true) | skip
    all_goals (rename_i heq; cases heq)
    obtain ⟨h1, h2⟩ := and2 h
    exact or_of (sE g tk a _ h1) (fun x hx => sE g tk b x hx) h2
  | .not a, x, h => by
    unfold ckE at h
    split at h <;> first | (exact absurd h Bool.false_ne_true) | skip
    all_goals (rename_i heq; cases heq)
    have ha := sE g tk a _ h
    exact ⟨gE_not ha.pe, fun o => gT_not (ha.pt o), fun _ z => by cases z⟩
  | .ife c a b, x, h => by
    unfold ckE at h
    split at h <;> first | (exact absurd h Bool.false_ne_true) | skip
    all_goals (rename_i heq; cases heq)
    obtain ⟨h0, h1⟩ := and2 h
    obtain ⟨h1, h2⟩ := and2 h1
    obtain ⟨h2, h3⟩ := and2 h2
    exact ⟨gE_ife ((sE g tk c _ h1).pt h0) (sE g tk a _ h2).pe (sE g tk b _ h3).pe, fun o => (by cases o), fun o _ => (by cases o)⟩
  | .tup es, x, h => by
    unfold ckE at h
    split at h <;> first | (exact absurd h Bool.false_ne_true) | skip
    all_goals (rename_i heq; cases heq)
    exact .plain (gE_tup (sEs g tk es _ h).pd) rfl
  | .lst es, x, h => by
    unfold ckE at h
    split at h <;> first | (exact absurd h Bool.false_ne_true) | skip
    all_goals (rename_i heq; cases heq)
    exact .plain (gE_lst (sEs g tk es _ h).pd) rfl
  | .idx a b, x, h => by
    unfold ckE at h
    split at h <;> first | (exact absurd h Bool.false_ne_true) | skip
    all_goals (rename_i heq; cases heq)
    obtain ⟨h0, h1⟩ := and2 h
    obtain ⟨h1, h2⟩ := and2 h1
    exact .plain (gE_idx g.hu h0 (sE g tk a _ h1).pe (sE g tk b _ h2).pe) rfl
  | .cut a lo hi, x, h => by
    unfold ckE at h
    split at h <;> first | (exact absurd h Bool.false_ne_true) | skip
    all_goals (rename_i heq; cases heq)
    obtain ⟨h1, h2⟩ := and2 h
    obtain ⟨h2, h3⟩ := and2 h2
    exact .plain (gE_cut (sE g tk a _ h1).pe (sE g tk lo _ h2).pe (sE g tk hi _ h3).pe) rfl
  | .cutL a lo, x, h => by
    unfold ckE at h
    split at h <;> first | (exact absurd h Bool.false_ne_true) | skip
    all_goals (rename_i heq; cases heq)
    obtain ⟨h1, h2⟩ := and2 h
    exact .plain (gE_cutL (sE g tk a _ h1).pe (sE g tk lo _ h2).pe) rfl
  | .cutH a hi, x, h => by
    unfold ckE at h
    split at h <;> first | (exact absurd h Bool.false_ne_true) | skip
    all_goals (rename_i heq; cases heq)
    obtain ⟨h1, h2⟩ := and2 h
    exact .plain (gE_cutH (sE g tk a _ h1).pe (sE g tk hi _ h2).pe) rfl
  | .cutA a, x, h => by
    unfold ckE at h
    split at h <;> first | (exact absurd h Bool.false_ne_true) | skip
    all_goals (rename_i heq; cases heq)
    exact .plain (gE_cutA (sE g tk a _ h).pe) rfl
  | .rev a, x, h => by
    unfold ckE at h
    split at h <;> first | (exact absurd h Bool.false_ne_true) | skip
    all_goals (rename_i heq; cases heq)
    exact .plain (gE_rev (sE g tk a _ h).pe) rfl
  | .revC a, x, h => by
    unfold ckE at h
    split at h <;> first | (exact absurd h Bool.false_ne_true) | skip
    all_goals (rename_i heq; cases heq)
    obtain ⟨h0, h3⟩ := and2 h
    obtain ⟨h0, h1⟩ := and2 h0
    obtain ⟨h0, h4⟩ := and2 h0
    obtain ⟨h1, h2⟩ := and2 h1
    have e1 := of_decide_eq_true h0
    have e2 := of_decide_eq_true h1
    subst e1
    subst e2
    exact .plain (gE_revC g (ck_notStar h3) h4 h2 (sE g tk a _ h3).pe) rfl
  | .bits a, x, h => by
    unfold ckE at h
    split at h <;> first | (exact absurd h Bool.false_ne_true) | skip
    all_goals (rename_i heq; cases heq)
    obtain ⟨h0, h2⟩ := and2 h
    obtain ⟨h0, h1⟩ := and2 h0
    obtain rfl := of_decide_eq_true h0
    exact .plain (gE_bits (sE g tk a _ h2).pe (ck_dotOk h2) h1) rfl
  | .lset a, x, h => by
    unfold ckE at h
    split at h <;> first | (exact absurd h Bool.false_ne_true) | skip
    all_goals (rename_i heq; cases heq)
    obtain ⟨h0, h3⟩ := and2 h
    obtain ⟨h0, h1⟩ := and2 h0
    obtain ⟨h0, h4⟩ := and2 h0
    obtain ⟨h1, h2⟩ := and2 h1
    have e1 := of_decide_eq_true h0
    have e2 := of_decide_eq_true h1
    subst e1
    subst e2
    exact .plain (gE_lset g (ck_notStar h3) h4 h2 (sE g tk a _ h3).pe) rfl
  | .call f es, x, h => by
    unfold ckE at h
    split at h <;> first | (exact absurd h Bool.false_ne_true) | skip
    all_goals (rename_i heq; cases heq)
    obtain ⟨h0, h2⟩ := and2 h
    obtain ⟨h0, h1⟩ := and2 h0
    obtain ⟨h1, h3⟩ := and2 h1
    exact .plain (gE_call g tk (of_decide_eq_true h0) h1 h3 (cks_head h2) (cks_tail h2) (sEs g tk es _ h2).pa) rfl
  | .bi b es, x, h => by
    unfold ckE at h
    split at h <;> first | (exact absurd h Bool.false_ne_true) | skip
    all_goals (rename_i heq; cases heq)
    obtain ⟨h0, h1⟩ := and2 h
    obtain ⟨h1, h2⟩ := and2 h1
    obtain ⟨h2, h3⟩ := and2 h2
    exact .plain (gE_bi g h0 (of_decide_eq_true h1) h2 (cks_head h3) (cks_tail h3) (sEs g tk es _ h3).ps) rfl
  | .isi k a, x, h => by
    unfold ckE at h
    split at h <;> first | (exact absurd h Bool.false_ne_true) | skip
    all_goals (rename_i heq; cases heq)
    obtain ⟨h0, h3⟩ := and2 h
    obtain ⟨h0, h2⟩ := and2 h0
    obtain ⟨h0, h1⟩ := and2 h0
    obtain ⟨h2, h4⟩ := and2 h2
    exact .plain (gE_isi g (of_decide_eq_true h0) h1 (of_decide_eq_true h2) h4 (ck_notStar h3) (sE g tk a _ h3).pe) rfl
  | .met m a es, x, h => by
    unfold ckE at h
    split at h <;> first | (exact absurd h Bool.false_ne_true) | skip
    all_goals (rename_i heq; cases heq)
    · obtain ⟨h0, h2⟩ := and2 h
      obtain ⟨h0, h1⟩ := and2 h0
      obtain ⟨h2, h3⟩ := and2 h2
      obtain rfl := of_decide_eq_true h0
      exact .plain (gE_index (sE g tk a _ h2).pe (ck_dotOk h2) h1 (ck_notStar h3) (gSs_cons (ck_notStar h3) (sE g tk _ _ h3).pe gSs_nil)) rfl
    · obtain ⟨h0, h2⟩ := and2 h
      obtain ⟨h0, h1⟩ := and2 h0
      obtain ⟨h2, h3⟩ := and2 h2
      obtain ⟨h3, h4⟩ := and2 h3
      obtain rfl := of_decide_eq_true h0
      exact .plain (gE_get g.hu (sE g tk a _ h2).pe (ck_dotOk h2) h1 (ck_notStar h3) (ck_notStar h4) (gSs_cons (ck_notStar h3) (sE g tk _ _ h3).pe (gSs_cons (ck_notStar h4) (sE g tk _ _ h4).pe gSs_nil))) rfl
  | .dget k1 v1 k2 v2 a b, x, h => by
    unfold ckE at h
    split at h <;> first | (exact absurd h Bool.false_ne_true) | skip
    all_goals (rename_i heq; cases heq)
    obtain ⟨h0, h2⟩ := and2 h
    obtain ⟨h0, h1⟩ := and2 h0
    obtain ⟨h2, h3⟩ := and2 h2
    obtain ⟨h3, h4⟩ := and2 h3
    obtain ⟨h4, h5⟩ := and2 h4
    obtain ⟨h5, h6⟩ := and2 h5
    obtain ⟨h6, h7⟩ := and2 h6
    obtain rfl := of_decide_eq_true h0
    exact .plain (gE_dget g.hu (sE g tk k1 _ h2).pe (sE g tk v1 _ h3).pe (sE g tk k2 _ h4).pe (sE g tk v2 _ h5).pe (sE g tk a _ h6).pe (sE g tk b _ h7).pe h1 (ck_notStar h6) (ck_notStar h7)) rfl
  | .mu m i es, x, h => by
    unfold ckE at h
    split at h <;> first | (exact absurd h Bool.false_ne_true) | skip
    all_goals (rename_i heq; cases heq)
    · obtain ⟨h0, h4⟩ := and2 h
      obtain ⟨h4, h5⟩ := and2 h4
      obtain ⟨h0, h2⟩ := and2 h0
      obtain ⟨h0, h1⟩ := and2 h0
      obtain ⟨h0, h3⟩ := and2 h0
      obtain rfl := of_decide_eq_true h3
      have ha := gCs_cons (ck_notStar h4) (sE g tk _ _ h4).pe (gCs_cons (es := .nil) (ck_notStar h5) (sE g tk _ _ h5).pe gCs_nil)
      cases m with
      | insert => exact .plain (gE_mu2 mu_insert PySem.F.slot_list_insert PySem.F.type_list_insert rfl h1 (name_of g h2) (ck_notStar h4) (ck_notStar h5) ha) rfl
      | _ => cases h0
    · obtain ⟨h0, h2⟩ := and2 h
      obtain ⟨h0, h1⟩ := and2 h0
      obtain ⟨h0, h3⟩ := and2 h0
      obtain rfl := of_decide_eq_true h3
      cases m with
      | pop => exact .plain (gE_mu0 mu_pop PySem.F.slot_list_pop PySem.F.type_list_pop rfl h1 (name_of g h2)) rfl
      | clear => exact .plain (gE_mu0 mu_clear PySem.F.slot_list_clear PySem.F.type_list_clear rfl h1 (name_of g h2)) rfl
      | reverse => exact .plain (gE_mu0 mu_reverse PySem.F.slot_list_reverse PySem.F.type_list_reverse rfl h1 (name_of g h2)) rfl
      | _ => cases h0
    · obtain ⟨h0, h4⟩ := and2 h
      obtain ⟨h0, h2⟩ := and2 h0
      obtain ⟨h0, h1⟩ := and2 h0
      obtain ⟨h0, h3⟩ := and2 h0
      obtain rfl := of_decide_eq_true h3
      have ha := gCs_cons (es := .nil) (ck_notStar h4) (sE g tk _ _ h4).pe gCs_nil
      cases m with
      | append => exact .plain (gE_mu1 mu_append PySem.F.slot_list_append PySem.F.type_list_append rfl h1 (name_of g h2) (ck_notStar h4) ha) rfl
      | popAt => exact .plain (gE_mu1 mu_popAt PySem.F.slot_list_pop PySem.F.type_list_pop rfl h1 (name_of g h2) (ck_notStar h4) ha) rfl
      | remove => exact .plain (gE_mu1 mu_remove PySem.F.slot_list_remove PySem.F.type_list_remove rfl h1 (name_of g h2) (ck_notStar h4) ha) rfl
      | _ => cases h0
  | .ext i e, x, h => by
    unfold ckE at h
    split at h <;> first | (exact absurd h Bool.false_ne_true) | skip
    all_goals (rename_i heq; cases heq)
    obtain ⟨h0, h4⟩ := and2 h
    obtain ⟨h0, h2⟩ := and2 h0
    obtain ⟨h0, h1⟩ := and2 h0
    obtain rfl := of_decide_eq_true h0
    exact .plain (gE_ext rfl h1 (name_of g h2) (ck_notStar h4) (sE g tk e _ h4).pe) rfl
  | .comp own elt tg it cs, x, h => by
    unfold ckE at h
    split at h <;> first | (exact absurd h Bool.false_ne_true) | skip
    all_goals (rename_i heq; cases heq)
    obtain ⟨h0, h1⟩ := and2 h
    obtain ⟨h0, h2⟩ := and2 h0
    obtain ⟨h0, h3⟩ := and2 h0
    obtain ⟨h1, h4⟩ := and2 h1
    obtain ⟨h4, h5⟩ := and2 h4
    exact .plain (gE_comp g h0 h3 h2 (ckI_notSet h1) (sI g tk it _ _ tg _ _ h2 h1) (fun s H C cells fp => sTs (g.blk s H _ C cells fp) takesN cs _ h5) (fun s H C cells fp => (sE (g.blk s H _ C cells fp) takesN elt _ h4).pe)) rfl
  | .inr neg a b, x, h => by
    unfold ckE at h
    split at h <;> first | (exact absurd h Bool.false_ne_true) | skip
    all_goals (rename_i heq; cases heq)
    obtain ⟨h0, h3⟩ := and2 h
    obtain ⟨h0, h1⟩ := and2 h0
    obtain ⟨h1, h2⟩ := and2 h1
    obtain ⟨h3, h4⟩ := and2 h3
    obtain rfl := of_decide_eq_true h0
    obtain rfl := of_decide_eq_true h1
    obtain ⟨i1, i2⟩ := gE_inr (neg := neg) g h2 (sE g tk _ _ h3).pe (sE g tk _ _ h4).pe (ck_notStar h4)
    exact ⟨i1, fun _ => i2, fun _ z => by cases z⟩
  | .lrng es, x, h => by
    unfold ckE at h
    split at h <;> first | (exact absurd h Bool.false_ne_true) | skip
    all_goals (rename_i heq; cases heq)
    · obtain ⟨h0, h3⟩ := and2 h
      obtain ⟨h3, h5⟩ := and2 h3
      obtain ⟨h0, h2⟩ := and2 h0
      obtain ⟨h0, h1⟩ := and2 h0
      obtain ⟨h2, h4⟩ := and2 h2
      obtain rfl := of_decide_eq_true h0
      obtain rfl := of_decide_eq_true h2
      exact .plain (gE_lrng2 g h1 h4 (ck_notStar h3) (ck_notStar h5) (sE g tk _ _ h3).pe (sE g tk _ _ h5).pe) rfl
    · obtain ⟨h0, h3⟩ := and2 h
      obtain ⟨h0, h2⟩ := and2 h0
      obtain ⟨h0, h1⟩ := and2 h0
      obtain ⟨h2, h4⟩ := and2 h2
      obtain rfl := of_decide_eq_true h0
      obtain rfl := of_decide_eq_true h2
      exact .plain (gE_lrng1 g h1 h4 (ck_notStar h3) (sE g tk _ _ h3).pe) rfl
    · obtain ⟨h0, h3⟩ := and2 h
      obtain ⟨h0, h2⟩ := and2 h0
      obtain ⟨h0, h1⟩ := and2 h0
      obtain ⟨h2, h4⟩ := and2 h2
      obtain rfl := of_decide_eq_true h0
      obtain rfl := of_decide_eq_true h2
      have hs := (sEs g tk _ _ h3).ps
      have q1 := and2 (show (ckE N sc _ _ && ckEs N sc _ _) = true from h3)
      have q2 := and2 (show (ckE N sc _ _ && ckEs N sc _ _) = true from q1.2)
      have q3 := and2 (show (ckE N sc _ _ && ckEs N sc _ _) = true from q2.2)
      exact .plain (gE_lrng3 g h1 h4 (ck_notStar q1.1) (ck_notStar q2.1) (ck_notStar q3.1) hs) rfl
  | .dnew t, x, h => by
    unfold ckE at h
    split at h <;> first | (exact absurd h Bool.false_ne_true) | skip
    all_goals (rename_i heq; cases heq)
    exact .plain gE_dnew rfl
  | .sm m a e, x, h => by
    unfold ckE at h
    split at h <;> first | (exact absurd h Bool.false_ne_true) | skip
    all_goals (rename_i heq; cases heq)
    obtain ⟨h0, h2⟩ := and2 h
    obtain ⟨h0, h1⟩ := and2 h0
    obtain ⟨h2, h3⟩ := and2 h2
    obtain rfl := of_decide_eq_true h0
    have ha := (sE g tk a _ h2).pe
    have he := (sE g tk e _ h3).pe
    cases m with
    | join => exact .plain (gE_sm sm_join PySem.F.slot_str_join PySem.F.type_str_join ha (ck_dotOk h2) h1 (ck_notStar h3) he) rfl
    | split => exact .plain (gE_sm sm_split PySem.F.slot_str_split PySem.F.type_str_split ha (ck_dotOk h2) h1 (ck_notStar h3) he) rfl
    | startswith => exact .plain (gE_sm sm_startswith PySem.F.slot_str_startswith PySem.F.type_str_startswith ha (ck_dotOk h2) h1 (ck_notStar h3) he) rfl
    | count => exact .plain (gE_sm sm_count PySem.F.slot_str_count PySem.F.type_str_count ha (ck_dotOk h2) h1 (ck_notStar h3) he) rfl
  | .gc k, x, h => by
    unfold ckE at h
    split at h <;> first | (exact absurd h Bool.false_ne_true) | skip
    all_goals (rename_i heq; cases heq)
    split at h
    · rename_i c hc
      obtain ⟨h0, h2⟩ := and2 h
      obtain ⟨h0, h3⟩ := and2 h0
      obtain ⟨h0, h1⟩ := and2 h0
      obtain rfl := of_decide_eq_true h0
      obtain ⟨v, u, hm, hv, hd⟩ := g.gm c (List.mem_of_getElem? hc) (of_decide_eq_true h2)
      refine .plain ((pe_glob (g.gl h1) hm hv (okName_of h3).1).of fun σ H Q ⟨fm, π, F, r, hR, k⟩ => ?_) rfl
      unfold evE at k
      simp only [hc] at k
      exact go_fz k hR (hd F)
    · cases h
  | .fstr es, x, h => by
    unfold ckE at h
    split at h <;> first | (exact absurd h Bool.false_ne_true) | skip
    all_goals (rename_i heq; cases heq)
    obtain ⟨ts, hj, ht⟩ := sFs g tk es _ h
    refine .plain ((pe_joined hj).of fun σ H Q ⟨fm, π, F, r, hR, k⟩ => ?_) rfl
    unfold evE at k
    refine ht _ σ H _ ⟨fm, π, F, r, hR, (Go.bind k).imp fun z H1 ⟨F1, r1, z', e1, ⟨hR1, hz⟩, k1⟩ => ?_⟩
    subst hz
    exact go_fz k1 hR1 (.str _)
termination_by e => sizeOf e
theorem sFs {X : Cx} {W : WX} {sc : Scope} (g : Good cl cv N sc X) (tk : L2N.Takes X W) : ∀ (es : Es) (xs : List Expr), ckFs N sc es xs = true → ∃ ts, PJ X xs ts ∧ ∀ acc σ H (Q : Str → Hp → Prop), tO X.K pr W cv (evFs cl pr es acc) (pStr X.K pr) σ H Q → tJs ts acc σ H Q
  | .nil, [], _ => ⟨[], .nil, fun acc σ H Q ⟨fm, π, F, r, hR, k⟩ => by
    unfold evFs at k
    exact k.val ⟨hR, rfl⟩⟩
  | .nil, _ :: _, h => by simp [ckFs] at h
  | .cons e es, xs, h => by
    unfold ckFs at h
    split at h <;> first | (exact absurd h Bool.false_ne_true) | skip
    · rename_i heq; cases heq
    · rename_i s es' s' j p xs' heq
      cases heq
      obtain ⟨h1, h2⟩ := and2 h
      obtain rfl := of_decide_eq_true h1
      obtain ⟨ts, hj, ht⟩ := sFs g tk es xs' h2
      refine ⟨_, .cons (gE_lit (pr := pr) (W := W) (cv := cv) (cl := cl) (d := .str s) (by simp [litOk])) hj, fun acc σ H Q q => ?_⟩
      exact go_lits ht q
    · rename_i x' p xs' heq
      cases heq
      obtain ⟨h1, h2⟩ := and2 h
      obtain ⟨ts, hj, ht⟩ := sFs g tk es xs' h2
      refine ⟨_, .cons (pe_fmt (sE g tk e _ h1).pe) hj, fun acc σ H Q q => ?_⟩
      exact go_fmt ht q
termination_by es => sizeOf es
theorem sEs {X : Cx} {W : WX} {sc : Scope} (g : Good cl cv N sc X) (tk : L2N.Takes X W) : ∀ (es : Es) (xs : List Expr), ckEs N sc es xs = true → SEs X pr W cv cl es xs
  | .nil, [], _ => ⟨gSs_nil, gCs_nil, gAs_nil⟩
  | .nil, _ :: _, h => by simp [ckEs] at h
  | .cons _ _, [], h => by simp [ckEs] at h
  | .cons e .nil, [x], h => by
    unfold ckEs at h
    obtain ⟨h1, _⟩ := and2 h
    have he := (sE g tk e x h1).pe
    exact ⟨gSs_cons (ck_notStar h1) he gSs_nil, gCs_cons (ck_notStar h1) he gCs_nil, gAs_one (ck_notStar h1) he⟩
  | .cons e .nil, _ :: _ :: _, h => by simp [ckEs] at h
  | .cons _ (.cons _ _), [_], h => by simp [ckEs] at h
  | .cons e (.cons e2 es), x :: y :: xs, h => by
    unfold ckEs at h
    obtain ⟨h1, h2⟩ := and2 h
    have he := (sE g tk e x h1).pe
    have hs := sEs g tk (.cons e2 es) (y :: xs) h2
    refine ⟨gSs_cons (ck_notStar h1) he hs.ps, gCs_cons (ck_notStar h1) he hs.pd, ?_⟩
    by_cases hn : ∃ i, Es.cons e2 es = Es.cons (.lit (.int i)) .nil
    · obtain ⟨i, hn⟩ := hn
      cases hn
      match xs, h2 with
      | [], h2 =>
        have h3 : ckE N sc (.lit (.int i)) y = true := by
          unfold ckEs at h2
          exact (and2 h2).1
        obtain ⟨j, p, rfl⟩ := lit_int h3
        exact gAs_lit (ck_notStar h1) rfl he pe_int
      | _ :: _, h2 => simp [ckEs] at h2
    · cases hd : dupV e (.cons e2 es) with
      | false => exact gAs_cons (fun i z => hn ⟨i, z⟩) hd (ck_notStar h1) he hs.pa
      | true => exact gAs_dup (fun i z => hn ⟨i, z⟩) hd (ck_notStar h1) he hs.pd
termination_by es => sizeOf es
theorem sTs {X : Cx} {W : WX} {sc : Scope} (g : Good cl cv N sc X) (tk : L2N.Takes X W) : ∀ (es : Es) (xs : List Expr), ckTs N sc es xs = true → PTs X xs (tT X.K pr W cv (evTs cl pr es))
  | .nil, [], _ => pts0
  | .nil, _ :: _, h => absurd h Bool.false_ne_true
  | .cons _ .nil, [], h => absurd h Bool.false_ne_true
  | .cons _ (.cons _ _), [], h => absurd h Bool.false_ne_true
  | .cons e .nil, [x], h => pts_one ((sE g tk e x (and2 h).2).pt (and2 h).1)
  | .cons e .nil, _ :: _ :: _, h => absurd h Bool.false_ne_true
  | .cons _ (.cons _ _), _ :: _, h => absurd h Bool.false_ne_true
termination_by es => sizeOf es
theorem sI {X : Cx} {W : WX} {sc : Scope} (g : Good cl cv N sc X) (tk : L2N.Takes X W) : ∀ (it : It) (i t : Expr) (tg : Tg) (sc2 : Scope) (fb : Str → Bool), ckTg N sc2 fb tg t = true → ckI N sc it i t = true → PI X t i (tI X.K pr (pairT tg) W cv (evI cl pr it))
  | .seq e, i, t, tg, sc2, fb, _, h => by
    unfold ckI at h
    exact gI_seq (sE g tk e _ h).pe
  | .rng es, i, t, tg, sc2, fb, ht, h => by
    clear ht
    unfold ckI at h
    split at h <;> first | (exact absurd h Bool.false_ne_true) | skip
    all_goals (rename_i heq; cases heq)
    obtain ⟨h0, h1⟩ := and2 h
    obtain ⟨h0, h2⟩ := and2 h0
    obtain ⟨h1, h3⟩ := and2 h1
    obtain rfl := of_decide_eq_true h0
    have hl := of_decide_eq_true h1
    exact rng_of g h3 hl h2 (sEs g tk es _ h3).ps
  | .enum e, i, t, tg, sc2, fb, ht, h => by
    unfold ckI at h
    split at h <;> first | (exact absurd h Bool.false_ne_true) | skip
    all_goals (rename_i heq; cases heq)
    obtain ⟨h0, h1⟩ := and2 h
    obtain ⟨h0, h2⟩ := and2 h0
    obtain ⟨h1, h3⟩ := and2 h1
    obtain rfl := of_decide_eq_true h0
    obtain ⟨_, _, _, rfl⟩ := tup_of h1
    exact gI_enum g (pair_of ht) h2 (ck_notStar h3) (sE g tk e _ h3).pe
  | .zip a b, i, t, tg, sc2, fb, ht, h => by
    unfold ckI at h
    split at h <;> first | (exact absurd h Bool.false_ne_true) | skip
    all_goals (rename_i heq; cases heq)
    obtain ⟨h0, h1⟩ := and2 h
    obtain ⟨h0, h2⟩ := and2 h0
    obtain ⟨h1, h3⟩ := and2 h1
    obtain ⟨h3, h4⟩ := and2 h3
    obtain rfl := of_decide_eq_true h0
    obtain ⟨_, _, _, rfl⟩ := tup_of h1
    exact gI_zip g (pair_of ht) h2 (ck_notStar h3) (ck_notStar h4) (sE g tk a _ h3).pe (sE g tk b _ h4).pe
termination_by it => sizeOf it
end
end
end Rk

/-! Rk, part O: statements. -/
namespace Rk
open PySem PySem.Spec PyProof.Rows L2
def argRV : Arg → RV
  | .fz d => .fz d
  | .ow d => .fr d
def GoS (K : Frag) (pr : List Nat) (W : WX) (cv : String → Value) (fm : Fm) (π : List Pin) (F : Hp) (res : O Fl) (D : Ends) : Prop := match res with
  | .no => False
  | .ex c r' => ∀ σ' F' H', Ex F F' → R K fm pr π F' σ' r' H' → W (cv c) none σ' H'
  | .ok .nx r' => ∀ σ' F' H', Ex F F' → R K fm pr π F' σ' r' H' → D.nx σ' H'
  | .ok .bk r' => ∀ σ' F' H', Ex F F' → R K fm pr π F' σ' r' H' → D.bk σ' H'
  | .ok .ct r' => ∀ σ' F' H', Ex F F' → R K fm pr π F' σ' r' H' → D.ct σ' H'
  | .ok (.rt a) r' => ∀ σ' F' H' v, Ex F F' → RX K fm pr π F' σ' r' H' v (argRV a) → D.rt v H'
abbrev tSt (K : Frag) (pr : List Nat) (W : WX) (cv : String → Value) (ev : Ro → O Fl) : TS := fun D σ H => ∃ fm π F r, R K fm pr π F σ r H ∧ GoS K pr W cv fm π F (ev r) D
section
variable {α β γ δ : Type} {K : Frag} {pr : List Nat} {W : WX} {cv : String → Value} {fm : Fm} {π : List Pin} {F : Hp} {σ : St} {D : Ends}
theorem GoS.no (h : GoS K pr W cv fm π F .no D) : False := h
theorem GoS.up {res : O Fl} {F1 : Hp} (h : GoS K pr W cv fm π F res D) (e1 : Ex F F1) : GoS K pr W cv fm π F1 res D := by
  cases res with
  | no => exact h
  | ok x r =>
    cases x with
    | nx => exact fun σ' F' H' e p => h σ' F' H' (e1.trans e) p
    | bk => exact fun σ' F' H' e p => h σ' F' H' (e1.trans e) p
    | ct => exact fun σ' F' H' e p => h σ' F' H' (e1.trans e) p
    | rt a => exact fun σ' F' H' v e p => h σ' F' H' v (e1.trans e) p
  | ex c r => exact fun σ' F' H' e p => h σ' F' H' (e1.trans e) p
theorem GoS.bind {x : O α} {f : α → Ro → O Fl} {Pa : Hp → Ro → Hp → β → α → Prop} (h : GoS K pr W cv fm π F (x.bind f) D) :
    Go K pr W cv fm π F σ x Pa (fun y H1 => ∃ F1 r1 a, Ex F F1 ∧ Pa F1 r1 H1 y a ∧ GoS K pr W cv fm π F1 (f a r1) D) := by
  cases x with
  | no => exact h
  | ok a r => exact fun v F' H' e p => ⟨F', r, a, e, p, GoS.up (show GoS K pr W cv fm π F (f a r) D from h) e⟩
  | ex c r => exact fun F' H' e p => h σ F' H' e p
/-- x = .. -/
theorem RX.stash {i : Nat} {r r' : Ro} {H : Hp} {v : V} {x : RV} (h : RX K fm pr π F σ r H v x) (e : stash pr i x r = some r') : ∃ F', Ex F F' ∧ R K fm pr π F' (σ.set i (some v)) r' H := by
  cases x with
  | fz d => exact ⟨F, Ex.refl F, h.1.setFz h.2 e⟩
  | fr d =>
    obtain ⟨p, o, rfl, hR, hc, hq⟩ := h
    exact ⟨F, Ex.refl F, hR.setOw hc hq e⟩
  | pk j =>
    obtain ⟨hR, hσ⟩ := h
    unfold Rk.stash at e
    cases hj : r[j]? with
    | none => simp only [hj] at e; cases e
    | some s =>
      simp only [hj] at e
      cases s with
      | un => cases e
      | lk d => cases e
      | fz d =>
        obtain ⟨v', h1, h2⟩ := hR.fz j _ hj
        rw [hσ] at h1
        cases h1
        exact ⟨F, Ex.refl F, hR.setFz h2 e⟩
      | ow d =>
        simp only at e
        split at e
        · cases d with
          | list xs =>
            have hc : Rk.cap r (.pk j) = some (.list xs, r.set j (.fz (.list xs))) := by unfold Rk.cap; simp only [hj]
            obtain ⟨F', ex, hR', hd⟩ := RX.cap (x := .pk j) ⟨hR, hσ⟩ hc
            exact ⟨F', ex, hR'.setFz hd e⟩
          | _ => cases e
        · rename_i hp
          obtain ⟨a, o, h1, _⟩ := hR.ow j _ hj
          rw [hσ] at h1
          cases h1
          obtain ⟨o, hc, hR2⟩ := hR.take hj hσ
          refine ⟨F, Ex.refl F, hR2.setOw hc (fun q hq e2 => hp ?_) e⟩
          have := hR.par3 q hq j _ hj (by rw [hσ, e2])
          rw [this]
          simpa using (hR.par q hq).1
theorem RX.retv {r r' : Ro} {H : Hp} {v : V} {x : RV} {a : Arg} (h : RX K fm pr π F σ r H v x) (e : retv pr x r = some (a, r')) : ∃ F', Ex F F' ∧ RX K fm pr π F' σ r' H v (argRV a) := by
  cases x with
  | fz d =>
    cases e
    exact ⟨F, Ex.refl F, h⟩
  | fr d =>
    cases e
    exact ⟨F, Ex.refl F, h⟩
  | pk j =>
    obtain ⟨hR, hσ⟩ := h
    unfold Rk.retv at e
    cases hj : r[j]? with
    | none => simp only [hj] at e; cases e
    | some s =>
      simp only [hj] at e
      cases s with
      | un => cases e
      | lk d => cases e
      | fz d =>
        cases e
        obtain ⟨v', h1, h2⟩ := hR.fz j _ hj
        rw [hσ] at h1
        cases h1
        exact ⟨F, Ex.refl F, hR, h2⟩
      | ow d =>
        simp only at e
        split at e
        · cases d with
          | list xs =>
            cases e
            have hc : Rk.cap r (.pk j) = some (.list xs, r.set j (.fz (.list xs))) := by unfold Rk.cap; simp only [hj]
            obtain ⟨F', ex, hR', hd⟩ := RX.cap (x := .pk j) ⟨hR, hσ⟩ hc
            exact ⟨F', ex, hR', hd⟩
          | _ => cases e
        · rename_i hp
          cases e
          obtain ⟨p, o, h1, _⟩ := hR.ow j _ hj
          rw [hσ] at h1
          cases h1
          obtain ⟨o, hc, hR2⟩ := hR.take hj hσ
          refine ⟨F, Ex.refl F, p, o, rfl, hR2, hc, fun q hq e2 => hp ?_⟩
          have := hR.par3 q hq j _ hj (by rw [hσ, e2])
          rw [this]
          simpa using (hR.par q hq).1
end
/-! ### what is looked at -/
def swB (sc : Scope) (t : Str) (p : Pos) : Expr → Bool
  | .ListComp _ _ s q => (sc.names.lookup t == some .local) && p.line == q.line && !(s.names.any fun (n, k) => n == t && (k == .local || k == .cell))
  | _ => false
def noComp : Expr → Bool
  | .ListComp _ _ _ _ => false
  | _ => true
def ckOne (x : Expr) : Bool := match x with
  | .SetComp _ _ _ _ => false
  | .DictComp _ _ _ _ _ => false
  | _ => true
theorem ck_one {N : List Str} {sc : Scope} {e : E} {x : Expr} (h : ckE N sc e x = true) : ckOne x = true := by
  cases x <;> first | rfl | (cases e <;> simp [ckE] at h)
theorem sw_of {sc : Scope} {env : Env} {x : Expr} {t : Str} {p : Pos} {l : Nat} (h : ckOne x = true) (es : env.scope = sc) (hk : sc.kind = .function) : swapsWith x (some (.Name t p)) l env = pure (swB sc t p x) := by
  have hb : env.blockKind = .function := by
    unfold Env.blockKind
    rw [es, hk]
    rfl
  have hko : env.kindOf t = sc.names.lookup t := by
    unfold Env.kindOf
    rw [es]
  cases x with
  | SetComp _ _ _ _ => cases h
  | DictComp _ _ _ _ _ => cases h
  | ListComp y g s q =>
    show (pure (env.blockKind == .function && env.kindOf t == some .local && p.line == q.line && !(s.names.any fun (n, k) => n == t && (k == .local || k == .cell))) : Sem Bool) = _
    rw [hb, hko]
    rfl
  | _ => rfl
theorem sw_off {env : Env} {x : Expr} {t : Option Expr} {l : Nat} (h : ckOne x = true) (h2 : noComp x = true) : swapsWith x t l env = pure false := by
  cases x <;> first | rfl | (cases h; done) | (cases h2; done)
theorem sole_off {env : Env} {x t : Expr} {l : Nat} (h : ckOne x = true) (h2 : noComp x = true) : swapsWithSole [t] x l env = pure false := sw_off (t := some t) h h2
def augOk : BOp → Bool
  | .add => true
  | .sub => true
  | _ => false
def isStr : Expr → Bool
  | .Constant (.str _) _ _ => true
  | _ => false
/-- a, b = x, y: stored from the right -/
def parB (sc : Scope) (x y : Str) (px py : Pos) (vs : List Expr) : Bool := (sc.names.lookup x == some .local) && (sc.names.lookup y == some .local) && (py.line == px.line) && !(x == y) && !(vs.all (foldedForSure 8)) && !(vs.all (constantsAlone 8))
def par3B (sc : Scope) (x y z : Str) (px py pz : Pos) (vs : List Expr) : Bool := (sc.names.lookup x == some .local) && (sc.names.lookup y == some .local) && (sc.names.lookup z == some .local) && (py.line == px.line) && (pz.line == px.line) && !(x == y) && !(x == z) && !(y == z) && !(vs.all (foldedForSure 8)) && !(vs.all (constantsAlone 8))
def constE : Expr → Bool
  | .Constant (.int _) _ _ => true
  | .Tuple [.Constant (.int _) _ _, .Constant (.bool _) _ _] _ _ => true
  | _ => false
def nmOk (N : List Str) (sc : Scope) (i : Nat) (x : Str) : Bool := decide (N[i]? = some x) && visB sc x && okName x && locB sc x
def ckInner (N : List Str) (sc : Scope) (i : Nat) (kk : Bool) : Stmt → Bool
  | .Assign [.Subscript (.Name y _) (.Constant (.int 0) _ _) _] (.Constant (.int _) _ _) _ => !kk && nmOk N sc i y
  | .Expr (.Call (.Attribute (.Name y _) m ap) [c] [] cp) _ => kk && nmOk N sc i y && decide (m = Str.ofString "append") && (ap.endLine == cp.line) && constE c
  | _ => false
def ckKill (N : List Str) (sc : Scope) (x i : Nat) (kk : Bool) : Stmt → Stmt → Bool
  | .For (.Name y _) (.Name z _) [b] [] _, .Expr (.Call (.Attribute (.Name z' _) m ap) [.List [] _] [] cp) _ => nmOk N sc i y && nmOk N sc x z && nmOk N sc x z' && decide (m = Str.ofString "append") && (ap.endLine == cp.line) && ckInner N sc i kk b
  | _, _ => false
/-- how many statements -/
def lenSs : Ss → Nat
  | .nil => 0
  | .cons _ ss => lenSs ss + 1
  | .scope _ mid _ _ _ rest => lenSs mid + 2 + lenSs rest
def flatSs : Ss → Bool
  | .nil => true
  | .cons _ ss => flatSs ss
  | .scope _ _ _ _ _ _ => false
/-- a name of the target is a cell: the stores are not turned about -/
def isCell (sc : Scope) : Expr → Bool
  | .Name x _ => decide (sc.names.lookup x = some .cell)
  | _ => false
def cellX (sc : Scope) : Expr → Bool
  | .Tuple es _ _ => es.any (isCell sc)
  | _ => false
mutual
def ckS (N : List Str) (sc : Scope) : S → Stmt → Bool
  | .asg i e, .Assign [.Name x _] v _ => decide (N[i]? = some x) && locB sc x && ckE N sc e v
  | .unp tg e, .Assign [t] v _ => isTupX t && (!isTupX v || cellX sc t) && noComp v && ckTg N sc (fun _ => true) tg t && ckE N sc e v
  | .par i j a b, .Assign [.Tuple [.Name x px, .Name y py] _ _] (.Tuple [a', b'] _ _) _ => parB sc x y px py [a', b'] && (decide (N[i]? = some x) && decide (N[j]? = some y)) && (ckE N sc a a' && ckE N sc b b')
  | .par3 i j l a b c, .Assign [.Tuple [.Name x px, .Name y py, .Name z pz] _ _] (.Tuple [a', b', c'] _ _) _ => par3B sc x y z px py pz [a', b', c'] && (decide (N[i]? = some x) && (decide (N[j]? = some y) && decide (N[l]? = some z))) && (ckE N sc a a' && (ckE N sc b b' && ckE N sc c c'))
  | .setIx i ix e, .Assign [.Subscript (.Name x _) k _] v _ => (decide (N[i]? = some x) && visB sc x && okName x) && nonSlice k && noComp v && (ckE N sc ix k && ckE N sc e v)
  | .swap i a j b e, .Assign [.Tuple [.Subscript (.Name x _) k _, .Subscript (.Name y _) l _] _ _] v _ => (decide (N[i]? = some x) && visB sc x && okName x) && (decide (N[j]? = some y) && visB sc y && okName y) && (nonSlice k && nonSlice l && noComp v) && (ckE N sc a k && ckE N sc b l && ckE N sc e v)
  | .aug i op e, .AugAssign (.Name x _) o v _ => augOk op && opEq o (opOf op) && (decide (N[i]? = some x) && locB sc x) && ckE N sc e v
  | .ex e, .Expr v _ => noComp v && ckE N sc e v
  | .ret e, .Return (some v) _ => ckE N sc e v
  | .ifs c a b, .If v xs ys _ => okT c && ckE N sc c v && (ckSs N sc a xs && ckSs N sc b ys)
  | .whl c b, .While v xs [] _ => okT c && ckE N sc c v && ckSs N sc b xs
  | .fo tg it b, .For t i xs [] _ => ckTg N sc (fun _ => true) tg t && ckI N sc it i t && ckSs N sc b xs
  | .brk, .Break _ => true
  | .cont, .Continue _ => true
  | .pass, .Pass _ => true
  | .pass, .Expr v _ => isStr v
  | .never, _ => true
  | .raise c, .Raise (some (.Call (.Name x _) [.Constant (.str _) _ _] [] _)) none _ => decide (x = Str.ofString c) && glB sc x && okName x
  | _, _ => false
def ckSs (N : List Str) (sc : Scope) : Ss → List Stmt → Bool
  | .nil, [] => true
  | .cons s ss, x :: xs => ckS N sc s x && ckSs N sc ss xs
  | .scope _ mid x i kk rest, xs => flatSs mid && (match xs.drop (lenSs mid) with
    | b1 :: b2 :: _ => ckKill N sc x i kk b1 b2
    | _ => false) && ckSs N sc mid (xs.take (lenSs mid)) && ckSs N sc rest (xs.drop (lenSs mid + 2))
  | _, _ => false
end
structure GoodS (cl : Cl) (cv : String → Value) (N : List Str) (sc : Scope) (X : Cx) extends Good cl cv N sc X where
  kind : sc.kind = .function
  fnA : ∀ x, X.fn x = true
section
variable {X : Cx} {pr : List Nat} {W : WX} {cv : String → Value} {cl : Cl} {N : List Str} {sc : Scope} {fu : Nat}
theorem comp_parts {e : E} {y : Expr} {gens : List Comprehension} {scope : Scope} {pos : Pos} (h : ckE N sc e (.ListComp y gens scope pos) = true) :
    ∃ own elt tg it cs t i ifs, e = .comp own elt tg it cs ∧ gens = [⟨t, i, ifs, 0⟩] ∧ blkC N sc scope (ownN N own) = true ∧ (tgSlots tg).all (fun k => own.contains k) = true ∧ ckTg N (relS scope sc) (fbIn scope sc) tg t = true ∧ ckI N sc it i t = true ∧ ckE N (relS scope sc) elt y = true ∧ ckTs N (relS scope sc) cs ifs = true := by
  cases e with
  | comp own elt tg it cs =>
    unfold ckE at h
    split at h <;> first | (exact absurd h Bool.false_ne_true) | skip
    all_goals (rename_i h1 h2; cases h1 <;> cases h2)
    obtain ⟨h0, h1⟩ := and2 h
    obtain ⟨h0, h2⟩ := and2 h0
    obtain ⟨h0, h3⟩ := and2 h0
    obtain ⟨h1, h4⟩ := and2 h1
    obtain ⟨h4, h5⟩ := and2 h4
    exact ⟨own, elt, tg, it, cs, _, _, _, rfl, rfl, h0, h3, h2, h1, h4, h5⟩
  | _ => simp [ckE] at h
/-! ### the kinds of statements -/
theorem gS_asg (g : GoodS cl cv N sc X) (tk : L2N.Takes X W) {i : Nat} {e : E} {x : Str} {v : Expr} {p pos : Pos} (h1 : N[i]? = some x) (h2 : locB sc x = true) (h3 : ckE N sc e v = true) : PS X (.Assign [.Name x p] v pos) (tSt X.K pr W cv (exS cl pr fu (.asg i e))) := by
  have key : PS X (.Assign [.Name x p] v pos) (tAsg (tE X.K pr W cv (evE cl pr e)) (gName i)) := by
    have hsw := sw_of (t := x) (p := p) (l := pos.line) (ck_one h3) g.esc g.kind
    cases hb : swB sc x p v with
    | false =>
      rw [hb] at hsw
      exact ps_set g.nd (by rw [g.eN]; exact h1) (by rw [g.esc]; exact loc_of h2) (sE g.toGood tk e v h3).pe hsw (.inl (g.fnA x))
    | true =>
      rw [hb] at hsw
      cases v with
      | ListComp y gens scope q =>
        obtain ⟨own, elt, tg, it, cs, t, ii, ifs, rfl, rfl, w1, w2, w3, w4, w5, w6⟩ := comp_parts h3
        have hl : sc.names.lookup x = some .local := by
          unfold swB at hb
          have := (and2 (and2 hb).1).1
          exact eq_of_beq this
        exact gS_setLc g.toGood h1 hl hsw w1 w2 w3 (ckI_notSet w4) (sI g.toGood tk it _ _ tg _ _ w3 w4) (fun s H C cells fp => sTs (g.toGood.blk s H _ C cells fp) takesN cs _ w6) (fun s H C cells fp => (sE (g.toGood.blk s H _ C cells fp) takesN elt _ w5).pe)
      | _ => cases hb
  refine ⟨fun pins s σ H D I ⟨fm, π, F, r, hR, k⟩ => key.run pins s σ H D I ?_⟩
  unfold exS at k
  refine ⟨fm, π, F, r, hR, (GoS.bind k).imp fun w H1 ⟨F1, r1, u, e1, hu, k1⟩ => ?_⟩
  show D.nx (σ.set i (some w)) H1
  cases q : stash pr i u r1 with
  | none => rw [q] at k1; exact k1.no.elim
  | some r2 =>
    rw [q] at k1
    obtain ⟨F2, e2, hR2⟩ := RX.stash hu q
    exact k1 _ F2 H1 e2 hR2
theorem _root_.L2.PS.of {st : Stmt} {t t' : TS} (h : PS X st t) (k : ∀ D σ H, t' D σ H → t D σ H) : PS X st t' := ⟨fun pins s σ H D I q => h.run pins s σ H D I (k _ _ _ q)⟩
theorem tup_swap {es : List Expr} {k : Nat} {p : Pos} {v : Expr} {env : Env} (h : isTupX v = false) : swappedStores [.Tuple es k p] v env = pure none := by
  cases v <;> first | rfl | cases h
theorem len_filterMap {α β : Type} {f : α → Option β} : ∀ {l : List α}, (∃ x ∈ l, f x = none) → (l.filterMap f).length < l.length
  | [], ⟨x, hx, _⟩ => absurd hx List.not_mem_nil
  | y :: l, ⟨x, hx, e⟩ => by
    have le := List.length_filterMap_le f l
    rw [List.filterMap_cons]
    rcases List.mem_cons.mp hx with rfl | hx
    · rw [e]
      show (l.filterMap f).length < l.length + 1
      omega
    · have ih := len_filterMap (f := f) ⟨x, hx, e⟩
      cases f y with
      | none =>
        show (l.filterMap f).length < l.length + 1
        omega
      | some z =>
        show (l.filterMap f).length + 1 < l.length + 1
        omega
theorem cell_swap {es : List Expr} {k : Nat} {p : Pos} {v : Expr} {env : Env} (he : env.scope = sc) (h : cellX sc (.Tuple es k p) = true) : swappedStores [.Tuple es k p] v env = pure none := by
  obtain ⟨x, hx, hc⟩ := List.any_eq_true.mp (show es.any (isCell sc) = true from h)
  have hf : ∀ line : Nat, ((es.filterMap fun
    | .Name id pos => if env.kindOf id == some .local && pos.line == line then some id else none
    | _ => none).length != es.length) = true := fun line => by
    have hl := len_filterMap (l := es) (f := fun
      | .Name id pos => if env.kindOf id == some .local && pos.line == line then some id else none
      | _ => none) ⟨x, hx, by
        cases x with
        | Name id pos =>
          have hk : sc.names.lookup id = some .cell := of_decide_eq_true hc
          have : env.kindOf id = some .cell := by
            unfold Env.kindOf
            rw [he]
            exact hk
          show (if env.kindOf id == some .local && pos.line == line then some id else none) = none
          rw [this]
          rfl
        | _ => rfl⟩
    rw [bne_iff_ne]
    omega
  cases v <;> try rfl
  unfold swappedStores
  dsimp only
  split
  · rfl
  · split
    · rfl
    · exact if_pos (Bool.or_eq_true_iff.mpr (Or.inl (hf _)))
theorem tup_swap2 {es : List Expr} {k : Nat} {p : Pos} {v : Expr} {env : Env} (he : env.scope = sc) (h : (!isTupX v || cellX sc (.Tuple es k p)) = true) : swappedStores [.Tuple es k p] v env = pure none := by
  cases hv : isTupX v with
  | false => exact tup_swap hv
  | true =>
    rw [hv] at h
    exact cell_swap he h
theorem gS_unp (g : GoodS cl cv N sc X) (tk : L2N.Takes X W) {tg : Tg} {e : E} {t v : Expr} {pos : Pos} (h1 : isTupX t = true) (h2 : (!isTupX v || cellX sc t) = true) (h3 : noComp v = true) (h4 : ckTg N sc (fun _ => true) tg t = true) (h5 : ckE N sc e v = true) : PS X (.Assign [t] v pos) (tSt X.K pr W cv (exS cl pr fu (.unp tg e))) := by
  have hpg : PG X t (gTg X.K pr tg) := pg_tg g.calm g.nd g.eN g.esc (fun x _ => .inl (g.fnA x)) h4
  obtain ⟨es, k, p, rfl⟩ := tup_of h1
  refine (ps_asg (pe_C (sE (pr := pr) g.toGood tk e v h5).pe) hpg (sole_off (ck_one h5) h3) (tup_swap2 g.esc h2) rfl).of fun D σ H ⟨fm, π, F, r, hR, k⟩ => ?_
  unfold exS at k
  refine ⟨fm, π, F, r, hR, (GoS.bind k).imp fun w H1 ⟨F1, r1, d, e1, ⟨hR1, hd⟩, k1⟩ => ?_⟩
  cases q : bindT pr tg d r1 with
  | none => simp only [q] at k1; exact k1.no.elim
  | some r2 =>
    simp only [q] at k1
    exact ⟨fm, π, F1, r1, d, r2, hR1, .inl hd, .inr hd, q, fun σ' _ hR2 => k1 σ' F1 H1 (Ex.refl F1) hR2⟩
theorem par_stores {x y : Str} {px py pt p2 : Pos} {kt k2 : Nat} {a b : Expr} {env : Env} (es : env.scope = sc) (hk : sc.kind = .function) (ha : notStar a = true) (hb : notStar b = true) (h : parB sc x y px py [a, b] = true) :
    swappedStores [.Tuple [.Name x px, .Name y py] kt pt] (.Tuple [a, b] k2 p2) env = pure (some [x, y]) := by
  unfold parB at h
  obtain ⟨h, h6⟩ := and2 h
  obtain ⟨h, h5⟩ := and2 h
  obtain ⟨h, h4⟩ := and2 h
  obtain ⟨h, h3⟩ := and2 h
  obtain ⟨h1, h2⟩ := and2 h
  have hbk : env.blockKind = .function := by
    unfold Env.blockKind
    rw [es, hk]
    rfl
  have hko : ∀ t, env.kindOf t = sc.names.lookup t := fun t => by
    unfold Env.kindOf
    rw [es]
  have hst : ([a, b].any fun | .Starred .. => true | _ => false) = false := by
    have f : ∀ z : Expr, notStar z = true → (match z with | .Starred .. => true | _ => false) = false := fun z hz => by cases z <;> first | rfl | cases hz
    simp [List.any, f a ha, f b hb]
  have hxy : (x == y) = false := by simpa using h4
  have hyx : (y == x) = false := by
    cases q : y == x with
    | false => rfl
    | true =>
      have := eq_of_beq q
      subst this
      simp at hxy
  have hed : ([x, y] : List Str).eraseDups = [x, y] := by
    simp [List.eraseDups_cons, hxy, hyx]
  have g1 : List.lookup x sc.names = some .local := eq_of_beq h1
  have g2 : List.lookup y sc.names = some .local := eq_of_beq h2
  have g3 : py.line = px.line := eq_of_beq h3
  have g5 : [a, b].all (foldedForSure 8) = false := (Bool.not_eq_true' _).mp h5
  have g6 : [a, b].all (constantsAlone 8) = false := (Bool.not_eq_true' _).mp h6
  unfold swappedStores
  simp only [hbk, hko, g5, g6]
  simp [g1, g2, g3, hed, Expr.pos]
  intro z
  exfalso
  rcases z with z | z
  · cases a <;> first | (cases z; done) | (cases ha; done)
  · cases b <;> first | (cases z; done) | (cases hb; done)
theorem gS_par (g : GoodS cl cv N sc X) (tk : L2N.Takes X W) {i j : Nat} {ea eb : E} {x y : Str} {px py pt p2 pos : Pos} {kt k2 : Nat} {a b : Expr} (hp : parB sc x y px py [a, b] = true) (hi : N[i]? = some x) (hj : N[j]? = some y) (h1 : ckE N sc ea a = true) (h2 : ckE N sc eb b = true) :
    PS X (.Assign [.Tuple [.Name x px, .Name y py] kt pt] (.Tuple [a, b] k2 p2) pos) (tSt X.K pr W cv (exS cl pr fu (.par i j ea eb))) := by
  have hst := par_stores (pt := pt) (kt := kt) (k2 := k2) (p2 := p2) g.esc g.kind (ck_notStar h1) (ck_notStar h2) hp
  unfold parB at hp
  obtain ⟨hp, _⟩ := and2 hp
  obtain ⟨hp, _⟩ := and2 hp
  obtain ⟨hp, h4⟩ := and2 hp
  obtain ⟨hp, _⟩ := and2 hp
  obtain ⟨g1, g2⟩ := and2 hp
  have g1 : sc.names.lookup x = some .local := eq_of_beq g1
  have g2 : sc.names.lookup y = some .local := eq_of_beq g2
  have hij : i ≠ j := fun z => by
    subst z
    rw [hi] at hj
    cases hj
    simp at h4
  have ha := gCs_cons (pr := pr) (es := .cons eb .nil) (ck_notStar h1) (sE (pr := pr) g.toGood tk ea a h1).pe (gCs_cons (ck_notStar h2) (sE g.toGood tk eb b h2).pe gCs_nil)
  refine (ps_par (pos := pos) g.calm g.nd (by rw [g.eN]; exact hi) (by rw [g.eN]; exact hj) hij (by rw [g.esc]; exact g1) (by rw [g.esc]; exact g2) ha hst rfl).of fun D σ H ⟨fm, π, F, r, hR, k⟩ => ?_
  unfold exS at k
  refine ⟨fm, π, F, r, hR, (GoS.bind k).imp fun vs H1 ⟨F1, r1, ds, e1, ⟨hR1, hd⟩, k1⟩ => ?_⟩
  match ds, hd, k1 with
  | [d1, d2], hd, k1 =>
    cases hd with
    | @cons v vs _ _ v1 hd =>
      cases hd with
      | @cons w ws _ _ w1 hd =>
        cases hd
        refine ⟨v, w, rfl, ?_⟩
        cases q : (setSl pr i (.fz d1) r1).bind (setSl pr j (.fz d2)) with
        | none => simp only [q] at k1; exact k1.no.elim
        | some r3 =>
          simp only [q] at k1
          obtain ⟨r2, q1, q2⟩ := Option.bind_eq_some_iff.mp q
          exact k1 _ F1 H1 (Ex.refl F1) ((hR1.setFz v1 q1).setFz w1 q2)
  | [], hd, k1 => exact k1.no.elim
  | [_], hd, k1 => exact k1.no.elim
  | _ :: _ :: _ :: _, hd, k1 => exact k1.no.elim
theorem par3_stores {x y z : Str} {px py pz pt p2 : Pos} {kt k2 : Nat} {a b c : Expr} {env : Env} (es : env.scope = sc) (hk : sc.kind = .function) (ha : notStar a = true) (hb : notStar b = true) (hc : notStar c = true) (h : par3B sc x y z px py pz [a, b, c] = true) :
    swappedStores [.Tuple [.Name x px, .Name y py, .Name z pz] kt pt] (.Tuple [a, b, c] k2 p2) env = pure (some [x, y, z]) := by
  unfold par3B at h
  obtain ⟨h, h6⟩ := and2 h
  obtain ⟨h, h5⟩ := and2 h
  obtain ⟨h, hyz⟩ := and2 h
  obtain ⟨h, hxz⟩ := and2 h
  obtain ⟨h, h4⟩ := and2 h
  obtain ⟨h, h3'⟩ := and2 h
  obtain ⟨h, h3⟩ := and2 h
  obtain ⟨h, g3⟩ := and2 h
  obtain ⟨h1, h2⟩ := and2 h
  have hbk : env.blockKind = .function := by
    unfold Env.blockKind
    rw [es, hk]
    rfl
  have hko : ∀ t, env.kindOf t = sc.names.lookup t := fun t => by
    unfold Env.kindOf
    rw [es]
  have hxy : (x == y) = false := by simpa using h4
  have hxz : (x == z) = false := by simpa using hxz
  have hyz : (y == z) = false := by simpa using hyz
  have sym : ∀ {u v : Str}, (u == v) = false → (v == u) = false := fun {u v} h => by
    cases q : v == u with
    | false => rfl
    | true =>
      have := eq_of_beq q
      subst this
      simp at h
  have hyx := sym hxy
  have hzx := sym hxz
  have hzy := sym hyz
  have hed : ([x, y, z] : List Str).eraseDups = [x, y, z] := by
    simp [List.eraseDups_cons, hxy, hyx, hxz, hzx, hyz, hzy]
  have g1 : List.lookup x sc.names = some .local := eq_of_beq h1
  have g2 : List.lookup y sc.names = some .local := eq_of_beq h2
  have g3 : List.lookup z sc.names = some .local := eq_of_beq g3
  have g4 : py.line = px.line := eq_of_beq h3
  have g4' : pz.line = px.line := eq_of_beq h3'
  have g5 : [a, b, c].all (foldedForSure 8) = false := (Bool.not_eq_true' _).mp h5
  have g6 : [a, b, c].all (constantsAlone 8) = false := (Bool.not_eq_true' _).mp h6
  unfold swappedStores
  simp only [hbk, hko, g5, g6]
  simp [g1, g2, g3, g4, g4', hed, Expr.pos]
  intro q
  exfalso
  rcases q with q | q | q
  · cases a <;> first | (cases q; done) | (cases ha; done)
  · cases b <;> first | (cases q; done) | (cases hb; done)
  · cases c <;> first | (cases q; done) | (cases hc; done)
theorem gS_par3 (g : GoodS cl cv N sc X) (tk : L2N.Takes X W) {i j l : Nat} {ea eb ec : E} {x y z : Str} {px py pz pt p2 pos : Pos} {kt k2 : Nat} {a b c : Expr} (hp : par3B sc x y z px py pz [a, b, c] = true) (hi : N[i]? = some x) (hj : N[j]? = some y) (hl : N[l]? = some z) (h1 : ckE N sc ea a = true) (h2 : ckE N sc eb b = true) (h3 : ckE N sc ec c = true) :
    PS X (.Assign [.Tuple [.Name x px, .Name y py, .Name z pz] kt pt] (.Tuple [a, b, c] k2 p2) pos) (tSt X.K pr W cv (exS cl pr fu (.par3 i j l ea eb ec))) := by
  have hst := par3_stores (pt := pt) (kt := kt) (k2 := k2) (p2 := p2) g.esc g.kind (ck_notStar h1) (ck_notStar h2) (ck_notStar h3) hp
  unfold par3B at hp
  obtain ⟨hp, _⟩ := and2 hp
  obtain ⟨hp, _⟩ := and2 hp
  obtain ⟨hp, hyz⟩ := and2 hp
  obtain ⟨hp, hxz⟩ := and2 hp
  obtain ⟨hp, hxy⟩ := and2 hp
  obtain ⟨hp, _⟩ := and2 hp
  obtain ⟨hp, _⟩ := and2 hp
  obtain ⟨hp, g3⟩ := and2 hp
  obtain ⟨g1, g2⟩ := and2 hp
  have g1 : sc.names.lookup x = some .local := eq_of_beq g1
  have g2 : sc.names.lookup y = some .local := eq_of_beq g2
  have g3 : sc.names.lookup z = some .local := eq_of_beq g3
  have ne : ∀ {m n : Nat} {u v : Str}, N[m]? = some u → N[n]? = some v → (!(u == v)) = true → m ≠ n := fun {m n u v} hm hn q z => by
    subst z
    rw [hm] at hn
    cases hn
    simp at q
  have ha := gCs_cons (pr := pr) (es := .cons eb (.cons ec .nil)) (ck_notStar h1) (sE (pr := pr) g.toGood tk ea a h1).pe (gCs_cons (ck_notStar h2) (sE g.toGood tk eb b h2).pe (gCs_cons (ck_notStar h3) (sE g.toGood tk ec c h3).pe gCs_nil))
  refine (ps_par3 (pos := pos) g.calm g.nd (by rw [g.eN]; exact hi) (by rw [g.eN]; exact hj) (by rw [g.eN]; exact hl) (ne hi hj hxy) (ne hi hl hxz) (ne hj hl hyz) (by rw [g.esc]; exact g1) (by rw [g.esc]; exact g2) (by rw [g.esc]; exact g3) ha hst rfl).of fun D σ H ⟨fm, π, F, r, hR, k⟩ => ?_
  unfold exS at k
  refine ⟨fm, π, F, r, hR, (GoS.bind k).imp fun vs H1 ⟨F1, r1, ds, e1, ⟨hR1, hd⟩, k1⟩ => ?_⟩
  match ds, hd, k1 with
  | [d1, d2, d3], hd, k1 =>
    cases hd with
    | @cons v vs _ _ v1 hd =>
      cases hd with
      | @cons w ws _ _ w1 hd =>
        cases hd with
        | @cons u us _ _ u1 hd =>
          cases hd
          refine ⟨v, w, u, rfl, ?_⟩
          cases q : ((setSl pr i (.fz d1) r1).bind (setSl pr j (.fz d2))).bind (setSl pr l (.fz d3)) with
          | none => simp only [q] at k1; exact k1.no.elim
          | some r4 =>
            simp only [q] at k1
            obtain ⟨r3, q, q3⟩ := Option.bind_eq_some_iff.mp q
            obtain ⟨r2, q1, q2⟩ := Option.bind_eq_some_iff.mp q
            exact k1 _ F1 H1 (Ex.refl F1) (((hR1.setFz v1 q1).setFz w1 q2).setFz u1 q3)
  | [], hd, k1 => exact k1.no.elim
  | [_], hd, k1 => exact k1.no.elim
  | [_, _], hd, k1 => exact k1.no.elim
  | _ :: _ :: _ :: _ :: _, hd, k1 => exact k1.no.elim
theorem R.mutD {fm : Fm} {π : List Pin} {F : Hp} {σ : St} {r : Ro} {H : Hp} {i : Nat} {ds : List (D × D)} (h : R X.K fm pr π F σ r H) (hi : r[i]? = some (.ow (.dict ds))) :
    ∃ a e ob, σ[i]? = some (some (.ref a)) ∧ H a = some (dO e ob) ∧ DRep X.K F e ob ds ∧ ∀ o' d', CRep X.K F o' d' → R X.K fm pr π F σ (r.set i (.ow d')) (upd H a o') := by
  obtain ⟨a, o, h1, h2, h3, h4, h5, h6⟩ := h.ow i _ hi
  cases h3 with
  | dc hr =>
    refine ⟨a, _, _, h1, h2, hr, fun o' d' hc' => ?_⟩
    obtain ⟨o, hc, hR⟩ := h.take hi h1
    have il : i < r.length := (List.getElem?_eq_some_iff.mp hi).1
    have g := (hR.change (o' := o')).untake (i := i) (d := d') (by rw [getr il]) h1 hc' fun q hq e => h.par3 q hq i _ hi (by rw [h1, e])
    rw [List.set_set] at g
    exact g
/-- o[k] = v: a list, a dict -/
def rSetA (K : Frag) : V → V → V → Hp → (Hp → Prop) → Prop := fun o i v H Q => rSetL o i v H Q ∨ ∃ (a e : Addr) (ob : Obj) (F : Hp) (ds : List (D × D)) (dk d : D), o = .ref a ∧ H a = some (dO e ob) ∧ DRep K F e ob ds ∧ Ex F H ∧ Dp K F i dk ∧ Dp K F v d ∧ keyFit ds dk = true ∧ lenOk ds.length = true ∧
  ∀ ob', DRep K F e ob' (dPut ds dk d) → Q (upd H a (dO e ob'))
theorem set_any (hu : X.A.units + 64 < cLine) : PSet X (rSetA X.K) := by
  intro pins s σ H o i v ov iv u Q I ro ri rv h
  rcases h with h | ⟨a, e, ob, F, ds, dk, d, rfl, ha, hr, ex, hk, hd, hf, hl, q⟩
  · exact set_list pins s σ H o i v ov iv u Q I ro ri rv h
  · obtain ⟨rfl, _⟩ := dO_at I ha
    cases ro
    exact dict_set (vx := .non) hu I ex ha hr ri rv hk hd hf hl fun ob' s' hr' I' => ⟨_, I', q ob' hr'⟩
theorem go_setAt {i : Nat} {ix : E} {fm : Fm} {π : List Pin} {F : Hp} {σ : St} {r : Ro} {H : Hp} {w : V} {d : D} {f : Unit → Ro → O Fl} {D : Ends} {Q : St → Hp → Prop} (hR : R X.K fm pr π F σ r H) (hd : Dp X.K F w d) (k : GoS X.K pr W cv fm π F ((setAt cl pr i ix d r).bind f) D)
    (fin : ∀ F1 r1 H1, Ex F F1 → R X.K fm pr π F1 σ r1 H1 → GoS X.K pr W cv fm π F1 (f () r1) D → Q σ H1) : gSub (tE X.K pr W cv (evE cl pr (.var i))) (tE X.K pr W cv (evE cl pr ix)) (rSetA X.K) w σ H Q := by
  unfold setAt at k
  cases hi : r[i]? with
  | none => simp only [hi] at k; exact k.no.elim
  | some s =>
    simp only [hi] at k
    cases s with
    | ow d0 =>
      refine ⟨fm, π, F, r, hR, ?_⟩
      unfold evE
      simp only [hi]
      intro o F2 H2 e2 hx
      obtain ⟨hR2, hs⟩ := hx
      have k' : GoS X.K pr W cv fm π F ((evE cl pr ix r).bind fun k r => (match (r[i]?, k) with
        | (some (.ow d1), .fz k) => (match setD d1 k d with
          | some d => O.ok () (r.set i (.ow d))
          | none => .no)
        | _ => .no).bind f) D := by
        cases h : evE cl pr ix r with
        | no => rw [h] at k; exact k
        | ex c r' => rw [h] at k; exact k
        | ok x r' =>
          rw [h] at k
          have k : GoS X.K pr W cv fm π F ((match r'[i]?, x with
            | some (.ow d1), .fz k => (match setD d1 k d with
              | some d => O.ok () (r'.set i (.ow d))
              | none => .no)
            | _, _ => .no).bind f) D := k
          show GoS X.K pr W cv fm π F ((match (r'[i]?, x) with
            | (some (.ow d1), .fz k) => (match setD d1 k d with
              | some d => O.ok () (r'.set i (.ow d))
              | none => .no)
            | _ => .no).bind f) D
          cases q1 : r'[i]? with
          | none => simp only [q1] at k; exact k
          | some s =>
            cases s <;> cases x <;> simp only [q1] at k <;> exact k
      refine ⟨fm, π, F2, r, hR2, (GoS.bind (GoS.up k' e2)).imp fun kv H3 ⟨F3, r3, t, e3, ht, k3⟩ => ?_⟩
      cases hi3 : r3[i]? with
      | none => simp only [hi3] at k3; exact k3.no.elim
      | some s3 =>
        simp only [hi3] at k3
        cases s3 with
        | ow d3 =>
          cases t with
          | fz dk =>
            simp only at k3
            obtain ⟨hR3, hk⟩ := ht
            cases q : setD d3 dk d with
            | none => simp only [q] at k3; exact k3.no.elim
            | some d4 =>
              simp only [q] at k3
              cases d3 with
              | list xs =>
                cases dk with
                | int kk =>
                  obtain ⟨jj, ej, rfl⟩ := Option.map_eq_some_iff.mp q
                  cases hk
                  obtain ⟨a, vs, m1, m2, m3, m4⟩ := hR3.mut hi3
                  rw [hs] at m1
                  cases m1
                  exact .inl ⟨a, vs, kk, jj, rfl, rfl, m2, by rw [DpAll.length m3]; exact ej, fin F3 _ _ (e2.trans e3) (m4 _ _ (DpAll.set (Dp.mono (e2.trans e3) _ _ hd) jj m3)) k3⟩
                | _ => cases q
              | dict ds =>
                have q' : (if (keyFit ds dk && lenOk ds.length) = true then some (PyData.dict (dPut ds dk d)) else none) = some d4 := by cases dk <;> exact q
                obtain ⟨hc, rfl⟩ := some_if q'
                rw [Bool.and_eq_true] at hc
                obtain ⟨a, e, ob, m1, m2, m3, m4⟩ := hR3.mutD hi3
                rw [hs] at m1
                cases m1
                exact .inr ⟨a, e, ob, F3, ds, dk, d, rfl, m2, m3, hR3.sub, hk, Dp.mono (e2.trans e3) _ _ hd, hc.1, hc.2, fun ob' hr' => fin F3 _ _ (e2.trans e3) (m4 _ _ (.dc hr')) k3⟩
              | none => cases q
              | bool _ => cases q
              | int _ => cases q
              | str _ => cases q
              | tuple _ => cases q
          | _ => exact k3.no.elim
        | _ => exact k3.no.elim
    | _ => exact k.no.elim
theorem pg_at (g : GoodS cl cv N sc X) (tk : L2N.Takes X W) {i : Nat} {ix : E} {x : Str} {kx : Expr} {p ps : Pos} (hn : (decide (N[i]? = some x) && visB sc x && okName x) = true) (h0 : nonSlice kx = true) (h2 : ckE N sc ix kx = true) :
    PG X (.Subscript (.Name x p) kx ps) (gSub (tE X.K pr W cv (evE cl pr (.var i))) (tE X.K pr W cv (evE cl pr ix)) (rSetA X.K)) := pg_sub (name_of g.toGood hn) (sE g.toGood tk ix kx h2).pe (set_any g.toGood.hu) (fun v => by cases kx <;> first | rfl | cases h0)
theorem gS_setIx (g : GoodS cl cv N sc X) (tk : L2N.Takes X W) {i : Nat} {ix e : E} {x : Str} {kx v : Expr} {p ps pos : Pos} (hn : (decide (N[i]? = some x) && visB sc x && okName x) = true) (h0 : nonSlice kx = true) (h1 : noComp v = true) (h2 : ckE N sc ix kx = true) (h3 : ckE N sc e v = true) :
    PS X (.Assign [.Subscript (.Name x p) kx ps] v pos) (tSt X.K pr W cv (exS cl pr fu (.setIx i ix e))) := by
  refine (ps_asg (pe_C (sE (pr := pr) g.toGood tk e v h3).pe) (pg_at (pr := pr) g tk hn h0 h2) (sole_off (ck_one h3) h1) rfl rfl).of fun D σ H ⟨fm, π, F, r, hR, k⟩ => ?_
  unfold exS at k
  refine ⟨fm, π, F, r, hR, (GoS.bind k).imp fun w H1 ⟨F1, r1, d, e1, ⟨hR1, hd⟩, k1⟩ => ?_⟩
  exact go_setAt hR1 hd k1 fun F2 r2 H2 e2 hR2 k2 => k2 σ F2 H2 (Ex.refl F2) hR2
/-- no pair is stored the other way round -/
theorem swap_off {x y : Expr} {k : Nat} {p : Pos} {v : Expr} {env : Env} {o1 k1 o2 k2 : Expr} {q1 q2 : Pos} (hx : x = .Subscript o1 k1 q1) (hy : y = .Subscript o2 k2 q2) : swappedStores [.Tuple [x, y] k p] v env = pure none := by
  subst hx hy
  cases v with
  | Tuple vs kk pp =>
    unfold swappedStores
    simp
  | _ => rfl
theorem gS_swap (g : GoodS cl cv N sc X) (tk : L2N.Takes X W) {i j : Nat} {a b e : E} {x y : Str} {kx ky v : Expr} {px sx py sy pt pos : Pos} {kt : Nat} (hx : (decide (N[i]? = some x) && visB sc x && okName x) = true) (hy : (decide (N[j]? = some y) && visB sc y && okName y) = true)
    (h0 : nonSlice kx = true) (h1 : nonSlice ky = true) (h2 : noComp v = true) (h3 : ckE N sc a kx = true) (h4 : ckE N sc b ky = true) (h5 : ckE N sc e v = true) :
    PS X (.Assign [.Tuple [.Subscript (.Name x px) kx sx, .Subscript (.Name y py) ky sy] kt pt] v pos) (tSt X.K pr W cv (exS cl pr fu (.swap i a j b e))) := by
  have hpg := pg_or (pg2 (k := kt) (p := pt) g.calm (x := .Subscript (.Name x px) kx sx) (y := .Subscript (.Name y py) ky sy) rfl rfl (pg_at (pr := pr) (cl := cl) (cv := cv) g tk hx h0 h3) (pg_at (pr := pr) (cl := cl) (cv := cv) g tk hy h1 h4)) (pg2l (k := kt) (p := pt) g.calm (x := .Subscript (.Name x px) kx sx) (y := .Subscript (.Name y py) ky sy) rfl rfl (pg_at (pr := pr) (cl := cl) (cv := cv) g tk hx h0 h3) (pg_at (pr := pr) (cl := cl) (cv := cv) g tk hy h1 h4))
  refine (ps_asg (pe_C (sE (pr := pr) g.toGood tk e v h5).pe) hpg (sole_off (ck_one h5) h2) (swap_off rfl rfl) rfl).of fun D σ H ⟨fm, π, F, r, hR, k⟩ => ?_
  unfold exS at k
  refine ⟨fm, π, F, r, hR, (GoS.bind k).imp fun w H1 ⟨F1, r1, d, e1, ⟨hR1, hd⟩, k1⟩ => ?_⟩
  match d, hd, k1 with
  | .tuple [d1, d2], hd, k1 =>
    cases hd with
    | tup hs ha =>
      cases ha with
      | cons g1 ha =>
        cases ha with
        | cons g2 ha =>
          cases ha
          refine .inl ⟨_, _, rfl, (ex_q hR1.sub hs).sq, rfl, _, _, rfl, ?_⟩
          refine go_setAt hR1 g1 k1 fun F2 r2 H2 e2 hR2 k2 => ⟨_, _, rfl, ?_⟩
          exact go_setAt hR2 (Dp.mono e2 _ _ g2) k2 fun F3 r3 H3 e3 hR3 k3 => ⟨rfl, k3 σ F3 H3 (Ex.refl F3) hR3⟩
  | .list [d1, d2], hd, k1 =>
    cases hd with
    | lst hs ha =>
      cases ha with
      | cons g1 ha =>
        cases ha with
        | cons g2 ha =>
          cases ha
          refine .inr ⟨_, _, rfl, ex_l hR1.sub hs, rfl, _, _, rfl, ?_⟩
          refine go_setAt hR1 g1 k1 fun F2 r2 H2 e2 hR2 k2 => ⟨_, _, rfl, ?_⟩
          exact go_setAt hR2 (Dp.mono e2 _ _ g2) k2 fun F3 r3 H3 e3 hR3 k3 => ⟨rfl, k3 σ F3 H3 (Ex.refl F3) hR3⟩
  | .none, _, k1 => exact k1.no.elim
  | .bool _, _, k1 => exact k1.no.elim
  | .int _, _, k1 => exact k1.no.elim
  | .str _, _, k1 => exact k1.no.elim
  | .list [], _, k1 => exact k1.no.elim
  | .list [_], _, k1 => exact k1.no.elim
  | .list (_ :: _ :: _ :: _), _, k1 => exact k1.no.elim
  | .dict _, _, k1 => exact k1.no.elim
  | .tuple [], _, k1 => exact k1.no.elim
  | .tuple [_], _, k1 => exact k1.no.elim
  | .tuple (_ :: _ :: _ :: _), _, k1 => exact k1.no.elim
theorem gS_aug (g : GoodS cl cv N sc X) (tk : L2N.Takes X W) {i : Nat} {op : BOp} {e : E} {x : Str} {v : Expr} {p pos : Pos} (ho : augOk op = true) (hi : N[i]? = some x) (hl : locB sc x = true) (h : ckE N sc e v = true) : PS X (.AugAssign (.Name x p) (opOf op) v pos) (tSt X.K pr W cv (exS cl pr fu (.aug i op e))) := by
  have he := (sE (pr := pr) g.toGood tk e v h).pe
  have N1 : X.N[i]? = some x := by rw [g.eN]; exact hi
  have L1 : L2.Loc X.env.scope x := by rw [g.esc]; exact loc_of hl
  have key : ∀ (D : Ends) (σ : St) (H : Hp), tSt X.K pr W cv (exS cl pr fu (.aug i op e)) D σ H → ∃ (m : Int), σ[i]? = some (some (.int m)) ∧ tE X.K pr W cv (evE cl pr e) σ H fun y H1 => ∃ n z, y = .int n ∧ augop op (.int m) (.int n) = some (.int z) ∧ D.nx (σ.set i (some (.int z))) H1 := fun D σ H ⟨fm, π, F, r, hR, k⟩ => by
    unfold exS at k
    cases hj : r[i]? with
    | none => simp only [hj] at k; exact k.no.elim
    | some s =>
      simp only [hj] at k
      cases s with
      | fz d =>
        obtain ⟨v0, z1, z2⟩ := hR.fz i d hj
        have fin : ∀ m, d = .int m → ∃ (m : Int), σ[i]? = some (some (.int m)) ∧ tE X.K pr W cv (evE cl pr e) σ H fun y H1 => ∃ n z, y = .int n ∧ augop op (.int m) (.int n) = some (.int z) ∧ D.nx (σ.set i (some (.int z))) H1 := fun m ed => by
          subst ed
          cases z2
          refine ⟨m, z1, fm, π, F, r, hR, (GoS.bind k).imp fun y H1 ⟨F1, r1, u, e1, hu, k1⟩ => ?_⟩
          cases u with
          | fz dy =>
            obtain ⟨hR1, hy⟩ := hu
            simp only at k1
            cases q : augop op (.int m) dy with
            | none => simp only [q] at k1; exact k1.no.elim
            | some z =>
              simp only [q] at k1
              have : ∃ n w, dy = .int n ∧ z = .int w := by
                cases op <;> cases dy <;> simp only [augop] at q <;> first | (cases q; done) | (cases q; exact ⟨_, _, rfl, rfl⟩)
              obtain ⟨n, w, rfl, rfl⟩ := this
              cases hy
              cases q2 : setSl pr i (.fz (.int w)) r1 with
              | none => simp only [q2] at k1; exact k1.no.elim
              | some r2 =>
                simp only [q2] at k1
                exact ⟨n, w, rfl, q, k1 _ F1 H1 (Ex.refl F1) (hR1.setFz (.int w) q2)⟩
          | _ => exact k1.no.elim
        cases d with
        | int m => exact fin m rfl
        | _ => exact k.no.elim
      | _ => exact k.no.elim
  cases op with
  | add =>
    exact (ps_aug g.nd N1 L1 he ip_add (.inl (g.fnA x))).of fun D σ H q => by
      obtain ⟨m, w1, fm, π, F, r, hR, w2⟩ := key D σ H q
      refine ⟨_, w1, fm, π, F, r, hR, w2.imp fun y H1 ⟨n, z, e1, e2, e3⟩ => ⟨m, n, rfl, e1, ?_⟩⟩
      cases e2
      exact e3
  | sub =>
    exact (ps_aug g.nd N1 L1 he ip_sub (.inl (g.fnA x))).of fun D σ H q => by
      obtain ⟨m, w1, fm, π, F, r, hR, w2⟩ := key D σ H q
      refine ⟨_, w1, fm, π, F, r, hR, w2.imp fun y H1 ⟨n, z, e1, e2, e3⟩ => ⟨m, n, rfl, e1, ?_⟩⟩
      cases e2
      exact e3
  | _ => cases ho
theorem gS_ex (g : GoodS cl cv N sc X) (tk : L2N.Takes X W) {e : E} {v : Expr} {pos : Pos} (h0 : noComp v = true) (h : ckE N sc e v = true) : PS X (.Expr v pos) (tSt X.K pr W cv (exS cl pr fu (.ex e))) :=
  (ps_expr (sE (pr := pr) g.toGood tk e v h).pe (sw_off (ck_one h) h0)).of fun D σ H ⟨fm, π, F, r, hR, k⟩ => by
    unfold exS at k
    exact ⟨fm, π, F, r, hR, (GoS.bind k).imp fun w H1 ⟨F1, r1, u, e1, hu, k1⟩ => k1 σ F1 H1 (Ex.refl F1) (RX.st hu)⟩
theorem gS_ret (g : GoodS cl cv N sc X) (tk : L2N.Takes X W) {e : E} {v : Expr} {pos : Pos} (h : ckE N sc e v = true) : PS X (.Return (some v) pos) (tSt X.K pr W cv (exS cl pr fu (.ret e))) :=
  (ps_ret (sE (pr := pr) g.toGood tk e v h).pe).of fun D σ H ⟨fm, π, F, r, hR, k⟩ => by
    unfold exS at k
    refine ⟨fm, π, F, r, hR, (GoS.bind k).imp fun w H1 ⟨F1, r1, u, e1, hu, k1⟩ => ?_⟩
    cases q : retv pr u r1 with
    | none => simp only [q] at k1; exact k1.no.elim
    | some ar =>
      obtain ⟨a, r2⟩ := ar
      simp only [q] at k1
      obtain ⟨F2, e2, h2⟩ := RX.retv hu q
      exact k1 σ F2 H1 w e2 h2
/-- a test, and what comes behind it -/
theorem go_test {e : E} {fm : Fm} {π : List Pin} {F : Hp} {σ : St} {r : Ro} {f : Bool → Ro → O Fl} {D : Ends} (k : GoS X.K pr W cv fm π F ((evE cl pr e r).bind fun x r => (asBool x r).bind f) D) :
    Go X.K pr W cv fm π F σ ((evE cl pr e r).bind asBool) (pB X.K pr fm π σ) fun b H1 => ∃ F1 r1, Ex F F1 ∧ R X.K fm pr π F1 σ r1 H1 ∧ GoS X.K pr W cv fm π F1 (f b r1) D := by
  have k' : GoS X.K pr W cv fm π F (((evE cl pr e r).bind asBool).bind f) D := by
    cases h : evE cl pr e r with
    | no => rw [h] at k; exact k
    | ex c r' => rw [h] at k; exact k
    | ok x r' => rw [h] at k; exact k
  exact (GoS.bind k').imp fun b H1 ⟨F1, r1, u, e1, ⟨hR1, hu⟩, k1⟩ => ⟨F1, r1, e1, hR1, by rw [hu]; exact k1⟩
theorem gS_if (g : GoodS cl cv N sc X) (tk : L2N.Takes X W) {e : E} {a b : Ss} {v : Expr} {xs ys : List Stmt} {pos : Pos} (h0 : okT e = true) (h : ckE N sc e v = true) (ha : PSs X xs (tSt X.K pr W cv (exSs cl pr fu a))) (hb : PSs X ys (tSt X.K pr W cv (exSs cl pr fu b))) :
    PS X (.If v xs ys pos) (tSt X.K pr W cv (exS cl pr fu (.ifs e a b))) :=
  (ps_if ((sE (pr := pr) g.toGood tk e v h).pt h0) ha hb).of fun D σ H ⟨fm, π, F, r, hR, k⟩ => by
    unfold exS at k
    refine ⟨fm, π, F, r, hR, (go_test k).imp fun c H1 ⟨F1, r1, e1, hR1, k1⟩ => ?_⟩
    cases c with
    | true =>
      rw [if_pos rfl] at k1 ⊢
      exact ⟨fm, π, F1, r1, hR1, k1⟩
    | false =>
      rw [if_neg Bool.false_ne_true] at k1 ⊢
      exact ⟨fm, π, F1, r1, hR1, k1⟩
theorem gS_whl (g : GoodS cl cv N sc X) (tk : L2N.Takes X W) (hp : PassesOwn (model X.prog X.w) X.A X.env X.xe) {e : E} {b : Ss} {v : Expr} {xs : List Stmt} {pos : Pos} (h0 : okT e = true) (h : ckE N sc e v = true) (hb : PSs X xs (tSt X.K pr W cv (exSs cl pr fu b))) :
    PS X (.While v xs [] pos) (tSt X.K pr W cv (exS cl pr fu (.whl e b))) := by
  refine (ps_while hp ((sE (pr := pr) g.toGood tk e v h).pt h0) hb).of fun D σ H ⟨fm, π, F, r, hR, k⟩ => ?_
  unfold exS at k
  refine ⟨fun m σ H => ∃ F' r', Ex F F' ∧ R X.K fm pr π F' σ r' H ∧ GoS X.K pr W cv fm π F' (whileL (fun r => (evE cl pr e r).bind fun x r => asBool x r) (exSs cl pr fu b) m r') D, ⟨fu, F, r, Ex.refl F, hR, k⟩, fun m σ1 H1 ⟨F1, r1, e1, hR1, k1⟩ => ?_⟩
  cases m with
  | zero => exact k1.no.elim
  | succ m =>
    refine ⟨fm, π, F1, r1, hR1, ?_⟩
    show Go X.K pr W cv fm π F1 σ1 ((evE cl pr e r1).bind asBool) (pB X.K pr fm π σ1) _
    unfold whileL at k1
    have k1 : GoS X.K pr W cv fm π F1 (match (evE cl pr e r1).bind asBool with
      | .no => .no
      | .ex c r1 => .ex c r1
      | .ok false r1 => .ok .nx r1
      | .ok true r1 => match exSs cl pr fu b r1 with
        | .ok .nx r2 => whileL (fun r => (evE cl pr e r).bind fun x r => asBool x r) (exSs cl pr fu b) m r2
        | .ok .ct r2 => whileL (fun r => (evE cl pr e r).bind fun x r => asBool x r) (exSs cl pr fu b) m r2
        | .ok .bk r2 => .ok .nx r2
        | .ok (.rt a) r2 => .ok (.rt a) r2
        | .ex c r2 => .ex c r2
        | .no => .no) D := k1
    cases ht : (evE cl pr e r1).bind asBool with
    | no => rw [ht] at k1; exact k1.no.elim
    | ex c r2 => rw [ht] at k1; exact fun F' H' e p => k1 σ1 F' H' e p
    | ok c r2 =>
      rw [ht] at k1
      rintro _ F2 H2 e2 ⟨hR2, rfl⟩
      rename_i c
      cases c with
      | false =>
        rw [if_neg Bool.false_ne_true]
        exact k1 σ1 F2 H2 e2 hR2
      | true =>
        rw [if_pos rfl]
        refine ⟨_, fun σ' H' q => ⟨m, Nat.lt_succ_self m, q⟩, fm, π, F2, r2, hR2, ?_⟩
        simp only at k1
        have k1 := GoS.up k1 e2
        cases hbd : exSs cl pr fu b r2 with
        | no => rw [hbd] at k1; exact k1.no.elim
        | ex c r3 => rw [hbd] at k1; exact fun σ' F' H' e p => k1 σ' F' H' e p
        | ok f r3 =>
          rw [hbd] at k1
          cases f with
          | nx => exact fun σ' F' H' e3 p => ⟨F', r3, (e1.trans e2).trans e3, p, GoS.up k1 e3⟩
          | ct => exact fun σ' F' H' e3 p => ⟨F', r3, (e1.trans e2).trans e3, p, GoS.up k1 e3⟩
          | bk => exact fun σ' F' H' e3 p => k1 σ' F' H' e3 p
          | rt a => exact fun σ' F' H' v e3 p => k1 σ' F' H' v e3 p
theorem perm_pl {K : Frag} {fm : Fm} {π pl : List Pin} {F : Hp} {σ : St} {r : Ro} {H : Hp} {p : Pin} (h : R K fm pr (p :: (pl ++ π)) F σ r H) : R K fm pr (pl ++ (p :: π)) F σ r H := h.perm List.perm_middle.symm
theorem RX.unlocks {fm : Fm} {π pl : List Pin} {F : Hp} {σ : St} {r : Ro} {H : Hp} {v : V} {a : Arg} {l : List Nat} (h : RX X.K fm pr (pl ++ π) F σ r H v (argRV a)) (e : pl.map Pin.s = l.reverse.map some) : RX X.K fm pr π F σ (unlockR l r) H v (argRV a) := by
  cases a with
  | fz d => exact ⟨h.1.unlocks e, h.2⟩
  | ow d =>
    obtain ⟨p, o, e1, hR, hc, hq⟩ := h
    exact ⟨p, o, e1, (perm_pl hR).unlocks e, hc, hq⟩
theorem gS_for (g : GoodS cl cv N sc X) (tk : L2N.Takes X W) (hp : PassesOwn (model X.prog X.w) X.A X.env X.xe) {tg : Tg} {it : It} {b : Ss} {t i : Expr} {xs : List Stmt} {pos : Pos} (h1 : ckTg N sc (fun _ => true) tg t = true) (h2 : ckI N sc it i t = true) (hb : PSs X xs (tSt X.K pr W cv (exSs cl pr fu b))) :
    PS X (.For t i xs [] pos) (tSt X.K pr W cv (exS cl pr fu (.fo tg it b))) := by
  have hpg : PG X t (gTg X.K pr tg) := pg_tg g.calm g.nd g.eN g.esc (fun x _ => .inl (g.fnA x)) h1
  refine (ps_for hp g.calm (sI (pr := pr) g.toGood tk it i t tg sc _ h1 h2) hpg hb (fun x => fold_of (ckI_notSet h2) x)).of fun D σ H ⟨fm, π, F, r, hR, k⟩ => ?_
  unfold exS at k
  refine ⟨fm, π, F, r, hR, (GoS.bind k).imp fun J H1 ⟨F1, r1, z, e1, ⟨hR1, hn, ho, G, Y, w, hG, hY⟩, k1⟩ => ?_⟩
  obtain ⟨pl, epl, hpl, hRL⟩ := hR1.locks hn ho
  refine for_it w (fun k σ H => ∃ F' r', Ex F1 F' ∧ R X.K fm pr (pl ++ π) F' σ r' H ∧ GoS X.K pr W cv fm π F' (unlockO z.2 (forL pr tg (exSs cl pr fu b) (z.1.drop k) r')) D)
    ⟨F1, _, Ex.refl F1, hRL, k1⟩ (fun k σk H _ ⟨F', r', ex, hRi, _⟩ => ?_) (fun k x σ2 H2 H3 hk ⟨F', r', ex, hRi, kc⟩ y => ?_) (fun σ2 H2 ⟨F', r', ex, hRi, kc⟩ => ?_)
  · refine hG H (ex.trans hRi.sub) (fun p hp => (hRi.pin p (List.mem_append_right _ hp)).1) fun j hj a o q1 q2 => ?_
    obtain ⟨p, hp, rfl, rfl⟩ := hpl j hj a o q1 q2
    exact (hRi.pin p (List.mem_append_left _ hp)).1
  · obtain ⟨d, hd, hx⟩ := hY k H2 x H3 y
    rw [drop_at hd] at kc
    unfold forL at kc
    cases hbt : bindT pr tg d r' with
    | none => simp only [hbt] at kc; exact kc.no.elim
    | some r2 =>
      simp only [hbt] at kc
      have key : R X.K fm pr (pl ++ π) F' σ2 r' H3 ∧ IR X.K F' H3 x d ∧ (pairT tg = true ∨ Dp X.K F' x d) := by
        rcases hx with ⟨rfl, hx⟩ | ⟨hpt, T, x1, x2, d1, d2, rfl, hT, rfl, rfl, q1, q2⟩
        · have := Dp.mono ex _ _ hx
          exact ⟨hRi, .inl this, .inr this⟩
        · exact ⟨hRi.grow hT, .inr ⟨T, x1, x2, d1, d2, rfl, upd_same, rfl, Dp.mono ex _ _ q1, Dp.mono ex _ _ q2⟩, .inl hpt⟩
      obtain ⟨hRk, hIR, hpd⟩ := key
      refine ⟨fm, _, F', r', d, r2, hRk, hIR, hpd, hbt, fun σ3 _ hR3 => ⟨fm, _, F', r2, hR3, ?_⟩⟩
      cases hbd : exSs cl pr fu b r2 with
      | no => rw [hbd] at kc; exact kc.no.elim
      | ex c r3 => rw [hbd] at kc; exact fun σ' F2 H' e p => kc σ' F2 H' e (p.unlocks epl)
      | ok f r3 =>
        rw [hbd] at kc
        cases f with
        | nx => exact fun σ' F2 H' e3 p => ⟨F2, r3, ex.trans e3, p, GoS.up kc e3⟩
        | ct => exact fun σ' F2 H' e3 p => ⟨F2, r3, ex.trans e3, p, GoS.up kc e3⟩
        | bk => exact fun σ' F2 H' e3 p => kc σ' F2 H' e3 (p.unlocks epl)
        | rt a => exact fun σ' F2 H' v e3 p => kc σ' F2 H' v e3 (RX.unlocks p epl)
  · rw [List.drop_length] at kc
    exact kc σ2 F' H2 (Ex.refl F') (hRi.unlocks epl)
end
end Rk

/-! Rk, part Os: a block whose new lists are written into at its end. -/
namespace Rk
open PySem PySem.Spec PyProof.Rows L2
/-- no list among the written objects -/
def noL (K : Frag) : Bool := K.all fun p => match p.2.cls with
  | .type t => t != "list"
  | _ => true
theorem noL_of {K : Frag} (h : noL K = true) {a : Addr} {o : Obj} (e : K.lookup a = some o) : o.cls ≠ .type "list" := by
  induction K with
  | nil => cases e
  | cons p r ih =>
    obtain ⟨b, q⟩ := p
    unfold noL at h
    rw [List.all_cons, Bool.and_eq_true] at h
    unfold List.lookup at e
    split at e
    · cases e
      intro z
      have h1 := h.1
      rw [z] at h1
      exact absurd h1 (by decide)
    · exact ih h.2 e
def tupF (F : Hp) : Hp := fun a => match F a with
  | some (.frz o (.tup xs)) => some (.frz o (.tup xs))
  | _ => none
theorem tupF_some {F : Hp} {a : Addr} {o : HO} (h : tupF F a = some o) : F a = some o ∧ ∃ ob xs, o = .frz ob (.tup xs) := by
  unfold tupF at h
  split at h
  · rename_i ob xs e
    cases h
    exact ⟨e, _, _, rfl⟩
  · cases h
theorem tupF_of {F : Hp} {a : Addr} {ob : Obj} {xs : List V} (h : F a = some (.frz ob (.tup xs))) : tupF F a = some (.frz ob (.tup xs)) := by
  unfold tupF
  rw [h]
mutual
theorem dp_small {K : Frag} {F : Hp} : ∀ (d : D) (v : V), noLst d = true → Dp K F v d → Dp K (tupF F) v d
  | .none, _, _, h => by cases h; exact .non
  | .bool b, _, _, h => by cases h; exact .bl b
  | .int i, _, _, h => by cases h; exact .int i
  | .str x, _, _, h => by cases h; exact .str x
  | .list ds, _, n, _ => by unfold noLst at n; cases n
  | .tuple ds, _, n, h => by
    unfold noLst at n
    cases h with
    | tup hs ha =>
      refine .tup ?_ (dps_small ds _ n ha)
      rcases hs with ⟨o, h1, h2⟩ | h2
      · exact .inl ⟨o, tupF_of h1, h2⟩
      · exact .inr h2
  | .dict _, _, n, _ => by unfold noLst at n; cases n
theorem dps_small {K : Frag} {F : Hp} : ∀ (ds : List D) (vs : List V), noLsts ds = true → DpAll K F vs ds → DpAll K (tupF F) vs ds
  | [], _, _, h => by cases h; exact .nil
  | d :: ds, _, n, h => by
    unfold noLsts at n
    rw [Bool.and_eq_true] at n
    cases h with
    | cons h1 h2 => exact .cons (dp_small d _ n.1 h1) (dps_small ds _ n.2 h2)
end
theorem hideR_len (keep : List Nat) : ∀ (k : Nat) (r : Ro), (hideR keep k r).length = r.length
  | _, [] => rfl
  | k, s :: r => by unfold hideR; rw [List.length_cons, List.length_cons, hideR_len keep (k + 1) r]
theorem keepR_len (keep : List Nat) : ∀ (k : Nat) (r : Ro), (keepR keep k r).length = r.length
  | _, [] => rfl
  | k, s :: r => by unfold keepR; rw [List.length_cons, List.length_cons, keepR_len keep (k + 1) r]
theorem hideR_at {keep : List Nat} : ∀ {k i : Nat} {r : Ro} {s : Sl}, (hideR keep k r)[i]? = some s → s = .un ∨ ∃ d, s = .fz d ∧ noLst d = true ∧ r[i]? = some (.fz d)
  | _, _, [], s, h => by simp [hideR] at h
  | k, 0, t :: r, s, h => by
    unfold hideR at h
    simp only [List.getElem?_cons_zero, Option.some.injEq] at h
    subst h
    split
    · rename_i d
      split
      · rename_i hc
        rw [Bool.and_eq_true] at hc
        exact .inr ⟨d, rfl, hc.2, by simp⟩
      · exact .inl rfl
    · exact .inl rfl
  | k, i + 1, t :: r, s, h => by
    unfold hideR at h
    rw [List.getElem?_cons_succ] at h
    rcases hideR_at h with z | ⟨d, z1, z2, z3⟩
    · exact .inl z
    · exact .inr ⟨d, z1, z2, by rw [List.getElem?_cons_succ]; exact z3⟩
theorem keepR_at {keep : List Nat} : ∀ {k i : Nat} {r : Ro} {s : Sl}, (keepR keep k r)[i]? = some s → s = .un ∨ (k + i ∈ keep ∧ r[i]? = some s)
  | _, _, [], s, h => by simp [keepR] at h
  | k, 0, t :: r, s, h => by
    unfold keepR at h
    simp only [List.getElem?_cons_zero, Option.some.injEq] at h
    subst h
    split
    · rename_i hc
      exact .inr ⟨by simpa using hc, by simp⟩
    · exact .inl rfl
  | k, i + 1, t :: r, s, h => by
    unfold keepR at h
    rw [List.getElem?_cons_succ] at h
    rcases keepR_at h with z | ⟨z1, z2⟩
    · exact .inl z
    · exact .inr ⟨by rw [show k + (i + 1) = k + 1 + i by omega]; exact z1, by rw [List.getElem?_cons_succ]; exact z2⟩
theorem keepR_in {keep : List Nat} : ∀ {k i : Nat} {r : Ro} {s : Sl}, k + i ∈ keep → r[i]? = some s → (keepR keep k r)[i]? = some s
  | _, _, [], s, _, h => by simp at h
  | k, 0, t :: r, s, hk, h => by
    unfold keepR
    simp only [List.getElem?_cons_zero, Option.some.injEq] at h ⊢
    subst h
    rw [if_pos (by simpa using hk)]
  | k, i + 1, t :: r, s, hk, h => by
    unfold keepR
    rw [List.getElem?_cons_succ] at h ⊢
    exact keepR_in (by rw [show k + 1 + i = k + (i + 1) by omega]; exact hk) h
theorem lkIn_at {keep : List Nat} : ∀ {k i : Nat} {r : Ro} {d : D}, lkIn keep k r = true → r[i]? = some (.lk d) → k + i ∈ keep
  | _, _, [], d, _, h => by simp at h
  | k, 0, t :: r, d, hk, h => by
    unfold lkIn at hk
    simp only [List.getElem?_cons_zero, Option.some.injEq] at h
    subst h
    rw [Bool.and_eq_true] at hk
    simpa using hk.1
  | k, i + 1, t :: r, d, hk, h => by
    unfold lkIn at hk
    rw [Bool.and_eq_true] at hk
    rw [List.getElem?_cons_succ] at h
    have := lkIn_at hk.2 h
    rwa [show k + 1 + i = k + (i + 1) by omega] at this
section
variable {K : Frag} {fm : Fm} {pr : List Nat} {π : List Pin} {F : Hp} {σ : St} {r : Ro} {H : Hp}
def smL (σ : St) (keep : List Nat) : List (Nat × Option V) := keep.filterMap fun i => (σ[i]?).map fun v => (i, v)
theorem smL_mem {σ : St} {keep : List Nat} {q : Nat × Option V} : q ∈ smL σ keep ↔ q.1 ∈ keep ∧ σ[q.1]? = some q.2 := by
  unfold smL
  rw [List.mem_filterMap]
  constructor
  · rintro ⟨i, hi, e⟩
    obtain ⟨v, e1, e2⟩ := Option.map_eq_some_iff.mp e
    subst e2
    exact ⟨hi, e1⟩
  · rintro ⟨h1, h2⟩
    exact ⟨q.1, h1, by rw [h2]; rfl⟩
/-- the frame of a block: what stands stays, what is new is the block's own -/
def smF (F H : Hp) (σ : St) (keep : List Nat) : Fm := ⟨H, tupF F, fun a => H a = none, fun _ h => h, [], smL σ keep⟩
theorem R.small (h : R K fm pr π F σ r H) (keep : List Nat) : R K (smF F H σ keep) keep [] (tupF F) σ (hideR keep 0 r) H := by
  have no : ∀ {i : Nat} {s : Sl}, (hideR keep 0 r)[i]? = some s → s = .un ∨ ∃ d, s = .fz d ∧ noLst d = true ∧ r[i]? = some (.fz d) := fun e => hideR_at e
  refine ⟨by rw [hideR_len]; exact h.len, fun a o e => h.sub a o (tupF_some e).1, fun a o _ e => e, Ex.refl _, fun a o e => .inl ⟨o, e⟩, fun i d e => ?_, fun i d e => ?_, fun i j d e a h1 => ?_, fun p hp => absurd hp (by simp), List.nodup_nil, fun p hp => absurd hp (by simp), fun i d e => ?_, fun q hq => absurd hq (by simp [smF]), fun q hq => absurd hq (by simp [smF]), fun q hq => absurd hq (by simp [smF]), fun q hq => absurd hq (by simp [smF]), fun p hp => absurd hp (by simp), fun q hq => smL_mem.mp hq⟩
  · rcases no e with z | ⟨d', z1, z2, z3⟩
    · cases z
    · cases z1
      obtain ⟨v, g1, g2⟩ := h.fz i d z3
      exact ⟨v, g1, dp_small d v z2 g2⟩
  · rcases no e with z | ⟨d', z1, _⟩
    · cases z
    · cases z1
  · rcases no h1 with z | ⟨d', z1, _⟩
    · cases z
    · cases z1
  · rcases no e with z | ⟨d', z1, _⟩
    · cases z
    · cases z1
theorem R.after (h : R K fm pr π F σ r H) {keep : List Nat} {σ2 : St} {H2 : Hp} (ex : Ex H H2) (hl : σ2.length = σ.length) (hs : ∀ i ∈ keep, ∀ v, σ[i]? = some v → σ2[i]? = some v) (hp : ∀ i ∈ pr, i ∈ keep) (hk : lkIn keep 0 r = true) : R K fm pr π F σ2 (keepR keep 0 r) H2 := by
  have kin : ∀ {i : Nat} {s : Sl}, (keepR keep 0 r)[i]? = some s → s ≠ .un → i ∈ keep ∧ r[i]? = some s := fun {i s} e n => by
    rcases keepR_at e with z | ⟨z1, z2⟩
    · exact absurd z n
    · rw [Nat.zero_add] at z1
      exact ⟨z1, z2⟩
  refine ⟨by rw [keepR_len, hl]; exact h.len, h.sub.trans ex, fun a o z e => ex _ _ (h.fr a o z e), h.old, h.nw, fun i d e => ?_, fun i d e => ?_, fun i j d e a h1 h2 h3 h4 => ?_, fun p hpp => ?_, h.pnd, fun p hpp i e => ?_, fun i d e => ?_, fun q hq => ?_, fun q hq d e => ?_, fun q hq i d h1 h2 => ?_, fun q hq => ?_, h.lkP, fun q hq => ?_⟩
  · obtain ⟨n1, e⟩ := kin e (by simp)
    obtain ⟨v, g1, g2⟩ := h.fz i d e
    exact ⟨v, hs i n1 _ g1, g2⟩
  · obtain ⟨n1, e⟩ := kin e (by simp)
    obtain ⟨a, o, g1, g2, g3⟩ := h.ow i d e
    exact ⟨a, o, hs i n1 _ g1, ex _ _ g2, g3⟩
  · obtain ⟨n1, e1⟩ := kin h1 (by simp)
    obtain ⟨n2, e2⟩ := kin h2 (by simp)
    obtain ⟨a1, _, g1, _⟩ := h.ow i d e1
    obtain ⟨a2, _, g2, _⟩ := h.ow j e e2
    have y1 := hs i n1 _ g1
    have y2 := hs j n2 _ g2
    rw [h3] at y1
    rw [h4] at y2
    cases y1
    cases y2
    exact h.dist i j d e a e1 e2 g1 g2
  · obtain ⟨g1, g2, g3⟩ := h.pin p hpp
    exact ⟨ex _ _ g1, g2, g3⟩
  · obtain ⟨g1, d, g2, g3⟩ := h.lock p hpp i e
    have n1 : i ∈ keep := by
      have := lkIn_at hk g2
      rwa [Nat.zero_add] at this
    exact ⟨hs i n1 _ g1, d, keepR_in (by rw [Nat.zero_add]; exact n1) g2, g3⟩
  · obtain ⟨n1, e⟩ := kin e (by simp)
    exact h.lks i d e
  · obtain ⟨g1, g2, g3⟩ := h.par q hq
    exact ⟨g1, hs _ (hp _ g1) _ g2, g3⟩
  · obtain ⟨n1, e⟩ := kin e (by simp)
    exact h.par2 q hq d e
  · obtain ⟨n1, e⟩ := kin h1 (by simp)
    obtain ⟨a, o, g1, _⟩ := h.ow i d e
    have y := hs i n1 _ g1
    rw [h2] at y
    cases y
    exact h.par3 q hq i d e g1
  · obtain ⟨o, e⟩ := h.par4 q hq
    exact ⟨o, ex _ _ e⟩
  · obtain ⟨g1, g2⟩ := h.kp q hq
    exact ⟨g1, hs _ (hp _ g1) _ g2⟩
/-- the new lists of a block -/
theorem R.inner {keep : List Nat} {F' : Hp} {σ' : St} {r1 : Ro} {H' : Hp} {σ0 : St} {F0 H0 : Hp} (nL : noL K = true) (h : R K (smF F0 H0 σ0 keep) keep [] F' σ' r1 H') {x : Nat} {kk : Bool} (hk : killOk kk x r1 = true) :
    ∃ p vs, σ'[x]? = some (some (.ref p)) ∧ H' p = some (.lst vs) ∧ H0 p = none ∧ vs.length ≤ 1000 ∧ ∀ v ∈ vs, ∃ a ws, v = .ref a ∧ a ≠ p ∧ H' a = some (.lst ws) ∧ H0 a = none ∧ ws.length ≤ 1000 ∧ (kk = false → ws ≠ []) := by
  unfold killOk at hk
  split at hk
  · rename_i ds hx
    rw [Bool.and_eq_true] at hk
    obtain ⟨p, o, g1, g2, g3, g4, g5, _⟩ := h.ow x _ hx
    obtain ⟨vs, rfl, ha⟩ := g3.list
    refine ⟨p, vs, g1, g2, g5, by rw [DpAll.length ha]; exact of_decide_eq_true hk.1, fun v hv => ?_⟩
    obtain ⟨i, hi⟩ := List.getElem?_of_mem hv
    obtain ⟨d, e1, e2⟩ := DpAll.getV ha hi
    have e3 := List.all_eq_true.mp hk.2 d (List.mem_of_getElem? e1)
    cases d with
    | list es =>
      unfold innerOk at e3
      rw [Bool.and_eq_true] at e3
      cases e2 with
      | lst hs ha2 =>
        rename_i a ws
        have hl := DpAll.length ha2
        have hF : F' a = some (.lst ws) ∧ H0 a = none := by
          rcases hs with (hs | ⟨ob, hs⟩) | ⟨ob, its, n, q1, q2, _⟩
          · refine ⟨hs, ?_⟩
            rcases h.nw a _ hs with ⟨o', z⟩ | ⟨z, _⟩
            · have z2 := h.old a o' z
              obtain ⟨_, ob, xs, rfl⟩ := tupF_some z
              rw [hs] at z2
              cases z2
            · exact z
          · rcases h.nw a _ hs with ⟨o', z⟩ | ⟨_, z⟩
            · have z2 := h.old a o' z
              obtain ⟨_, ob, xs, rfl⟩ := tupF_some z
              rw [hs] at z2
              cases z2
            · exact absurd rfl (z ob ws)
          · exact absurd q2 (noL_of nL q1)
        refine ⟨a, ws, rfl, fun z => ?_, h.sub _ _ hF.1, hF.2, by rw [hl]; exact of_decide_eq_true e3.1, fun z => ?_⟩
        · rw [z, g4] at hF
          cases hF.1
        · subst z
          intro z
          rw [z] at hl
          cases es with
          | nil => simp at e3
          | cons _ _ => cases hl
    | _ => cases e3
  · cases hk
end
/-! ### what is done to them -/
def tKill (kk : Bool) (x i : Nat) (u : TS) : TS := fun D σ H => ∃ p vs, σ[x]? = some (some (.ref p)) ∧ H p = some (.lst vs) ∧ vs.length ≤ 1000 ∧ (∀ v ∈ vs, ∃ a ws, v = .ref a ∧ a ≠ p ∧ H a = some (.lst ws) ∧ ws.length ≤ 1000 ∧ (kk = false → ws ≠ [])) ∧ i < σ.length ∧ i ≠ x ∧
  ∀ σ2 H2, σ2.length = σ.length → (∀ j, j ≠ i → σ2[j]? = σ[j]?) → (∀ b o, b ≠ p → V.ref b ∉ vs → H b = some o → H2 b = some o) → u D σ2 H2
section
variable {X : Cx} {cv : String → Value} {cl : Cl} {N : List Str} {sc : Scope}
theorem and4 {a b c d : Bool} (h : (a && b && c && d) = true) : a = true ∧ b = true ∧ c = true ∧ d = true := by
  simp only [Bool.and_eq_true] at h
  exact ⟨h.1.1.1, h.1.1.2, h.1.2, h.2⟩
theorem pe_nm (g : GoodS cl cv N sc X) {i : Nat} {x : Str} {p : Pos} (h : nmOk N sc i x = true) : PE X (.Name x p) (tVar i) := by
  obtain ⟨h1, h2, h3, h4⟩ := and4 h
  exact pe_var (by rw [g.eN]; exact of_decide_eq_true h1) (by rw [g.esc]; exact vis_of h2) (okName_of h3).1 (okName_of h3).2
/-- a constant: its value, whatever stands -/
theorem pe_cst {e : Expr} (h : constE e = true) : PE X e (fun σ H Q => ∀ v H1, (∀ b o, H b = some o → H1 b = some o) → Q v H1) ∧ notStar e = true := by
  unfold constE at h
  split at h
  · exact ⟨pe_int.of fun σ H Q k => k _ H fun _ _ z => z, rfl⟩
  · refine ⟨(pe_tup (pa_cons pe_int (pa_cons pe_bl pa_nil (star_cons rfl)) (star_cons rfl))).of fun σ H Q k => ?_, rfl⟩
    refine ⟨by rw [sizeLine_eq]; exact (by decide : 2 ≤ 16777216), fun T hT => k _ _ fun b o e => ?_⟩
    have n : b ≠ T := fun z => by rw [z, hT] at e; cases e
    rw [upd_ne n]
    exact e
  · cases h
/-- one inner list -/
def tInner (i : Nat) (kk : Bool) : TS := fun D σ H => ∃ a ws, σ[i]? = some (some (.ref a)) ∧ H a = some (.lst ws) ∧ ws.length ≤ 100000 ∧ (kk = false → ws ≠ []) ∧ ∀ ws' H', ws'.length ≤ ws.length + 1 → (kk = false → ws' ≠ []) → H' a = some (.lst ws') → (∀ c o, c ≠ a → H c = some o → H' c = some o) → D.nx σ H'
theorem ps_inner (g : GoodS cl cv N sc X) {i : Nat} {kk : Bool} {b : Stmt} (h : ckInner N sc i kk b = true) :
    PS X b (tInner i kk) := by
  unfold ckInner at h
  split at h
  · obtain ⟨h1, h2⟩ := and2 h
    have hkk : kk = false := by simpa using h1
    subst hkk
    refine (ps_asg pe_int (pg_sub (pe_nm g h2) pe_int set_list (fun v => by rfl)) (by rfl) (by rfl)).of fun D σ H ⟨a, ws, h1, h2, h3, h4, k⟩ => ?_
    obtain ⟨w, rest, rfl⟩ : ∃ w rest, ws = w :: rest := by
      cases ws with
      | nil => exact absurd rfl (h4 rfl)
      | cons w r => exact ⟨w, r, rfl⟩
    refine ⟨.ref a, h1, a, w :: rest, 0, 0, rfl, rfl, h2, ?_, ?_⟩
    · unfold ixN
      simp
    · exact k _ _ (by simp) (fun _ z => by cases z) upd_same fun c o n e => by rw [upd_ne n]; exact e
  · rename_i y p m ap c cp pos
    obtain ⟨w1, h5⟩ := and2 h
    obtain ⟨w2, h4⟩ := and2 w1
    obtain ⟨w3, h3⟩ := and2 w2
    obtain ⟨hkk, h2⟩ := and2 w3
    clear w1 w2 w3 h
    obtain rfl := of_decide_eq_true h3
    subst hkk
    obtain ⟨hc, nc⟩ := pe_cst (X := X) h5
    refine (ps_expr (pe_bm PySem.F.plainAttrs_list PySem.F.slot_list_append PySem.F.type_list_append mt_append (pe_nm g h2) (pa_cons hc pa_nil (star_cons nc)) (dot_of rfl) (few_of nc rfl (by simp)) h4 (star_cons nc)) (by rfl)).of fun D σ H ⟨a, ws, h1, h2, h3, h4, k⟩ => ?_
    refine ⟨.ref a, h1, .inl ⟨rfl, ws, .inl (.inl h2)⟩, fun v H1 e1 => ?_⟩
    refine ⟨a, ws, v, rfl, rfl, e1 _ _ h2, by rw [sizeLine_eq]; omega, ?_⟩
    exact k (ws ++ [v]) _ (by simp) (fun z => by cases z) upd_same fun c o n e => by rw [upd_ne n]; exact e1 _ _ e
  · cases h
theorem ps_kill (g : GoodS cl cv N sc X) (hp : PassesOwn (model X.prog X.w) X.A X.env X.xe) {x i : Nat} {kk : Bool} {b1 b2 : Stmt} {rest : List Stmt} {u : TS} (h : ckKill N sc x i kk b1 b2 = true) (hu : PSs X rest u) : PSs X (b1 :: b2 :: rest) (tKill kk x i u) := by
  unfold ckKill at h
  split at h
  · rename_i y py z pz b pf z' pz' m ap pl cp pe
    obtain ⟨h, c6⟩ := and2 h
    obtain ⟨h, c5⟩ := and2 h
    obtain ⟨h, c4⟩ := and2 h
    obtain ⟨h, c3⟩ := and2 h
    obtain ⟨c1, c2⟩ := and2 h
    obtain rfl := of_decide_eq_true c4
    obtain ⟨n1, n2, n3, n4⟩ := and4 c1
    have hg : PG X (.Name y py) (gName i) := pg_name g.nd (by rw [g.eN]; exact of_decide_eq_true n1) (by rw [g.esc]; exact loc_of n4) (.inl (g.fnA y))
    have hfor := ps_for (pos := pf) hp g.calm (pi_seqA (tg := .Name y py) (pe_nm (p := pz) g c2)) hg (pss_one (ps_inner g c6))
    have happ := ps_expr (pos := pe) (pe_bm PySem.F.plainAttrs_list PySem.F.slot_list_append PySem.F.type_list_append mt_append (pe_nm (p := pz') g c3) (pa_cons (pe_lst (pos := pl) (X := X) pa_nil) pa_nil (star_cons rfl)) (dot_of rfl) (few_of rfl rfl (by simp)) c5 (star_cons rfl)) (by rfl)
    refine ⟨fun pins s σ H D I ⟨p, vs, e1, e2, e3, e4, e5, e6, k⟩ => (pss_cons hfor (pss_cons happ hu)).run pins s σ H D I ?_⟩
    refine ⟨.ref p, e1, p, rfl, .inl ⟨vs, .inl (.inl e2), ?_⟩⟩
    refine for_list (K := X.K) (xs := vs) (g := gName i) (tb := tInner i kk) (D := { nx := tSeq (tDrop (tBM X.K "list" rAppend (tVar x) (tCons (tLst tNil) tNil))) u D, rt := D.rt, bk := D.bk, ct := D.ct }) (fun n σ' H' => σ'.length = σ.length ∧ (∀ j, j ≠ i → σ'[j]? = σ[j]?) ∧ H' p = some (.lst vs) ∧ (∀ v ∈ vs, ∃ a ws, v = .ref a ∧ a ≠ p ∧ H' a = some (.lst ws) ∧ ws.length ≤ 1000 + n ∧ (kk = false → ws ≠ [])) ∧ ∀ b o, b ≠ p → V.ref b ∉ vs → H b = some o → H' b = some o)
      ⟨rfl, fun _ _ => rfl, e2, e4, fun _ _ _ _ z => z⟩ (fun n σ' H' _ P => .inl (.inl P.2.2.1)) (fun n v σ' H' hv ⟨p1, p2, p3, p4, p5⟩ => ?_) (fun σ' H' ⟨p1, p2, p3, p4, p5⟩ => ?_)
    · have hn : n < vs.length := (List.getElem?_eq_some_iff.mp hv).1
      obtain ⟨a, ws, rfl, q1, q2, q3, q4⟩ := p4 v (List.mem_of_getElem? hv)
      have il : i < σ'.length := by rw [p1]; exact e5
      refine ⟨a, ws, by simp [il], q2, by omega, q4, fun ws' H2 w1 w2 w3 w4 => ?_⟩
      refine ⟨by rw [List.length_set]; exact p1, fun j hj => by rw [List.getElem?_set_ne (fun z => hj z.symm)]; exact p2 j hj, w4 p _ (fun z => q1 z.symm) p3, fun v' hv' => ?_, fun b o b1 b2 e => ?_⟩
      · obtain ⟨a', ws2, rfl, y1, y2, y3, y4⟩ := p4 v' hv'
        by_cases ea : a' = a
        · subst ea
          rw [q2] at y2
          cases y2
          exact ⟨a', ws', rfl, y1, w3, by omega, w2⟩
        · exact ⟨a', ws2, rfl, y1, w4 _ _ ea y2, by omega, y4⟩
      · exact w4 b o (fun z => b2 (by rw [z]; exact List.mem_of_getElem? hv)) (p5 b o b1 b2 e)
    · refine ⟨.ref p, by rw [p2 x (fun z => e6 z.symm)]; exact e1, .inl ⟨rfl, vs, .inl (.inl p3)⟩, ?_⟩
      refine ⟨Nat.zero_le _, fun q hq => ?_⟩
      have pq : p ≠ q := fun z => by rw [← z, p3] at hq; cases hq
      refine ⟨p, vs, .ref q, rfl, rfl, by rw [upd_ne pq]; exact p3, by rw [sizeLine_eq]; omega, ?_⟩
      refine k σ' _ p1 p2 fun b o b1 b2 e => ?_
      have e' := p5 b o b1 b2 e
      have bq : b ≠ q := fun z => by rw [z, hq] at e'; cases e'
      rw [upd_ne b1, upd_ne bq]
      exact e'
  · cases h
end
end Rk

/-! Rk, part P: every statement; defs. -/
namespace Rk
open PySem PySem.Spec PyProof.Rows L2
/-! the classes that a text raises -/
mutual
def rsS : S → List String
  | .ifs _ a b => rsSs a ++ rsSs b
  | .whl _ b => rsSs b
  | .fo _ _ b => rsSs b
  | .raise c => [c]
  | _ => []
def rsSs : Ss → List String
  | .nil => []
  | .cons s ss => rsS s ++ rsSs ss
  | .scope _ mid _ _ _ rest => rsSs mid ++ rsSs rest
end
/-- an own error class without __init__, over ValueError -/
def RaiseOk (K : Frag) (mg : Str → Option Value) (c : String) (v : Value) : Prop :=
  ∃ C : Addr, v = .ref C ∧ mg (Str.ofString c) = some (.ref C) ∧ PySem.W.excIn K C [.type "ValueError", .type "Exception", .type "BaseException", .type "object"] "ValueError.__new__" = true ∧ PySem.W.keepIn K (.ref C) = true ∧
    PySem.W.subIn K (.ref C) (.type "BaseException") = some true ∧ PySem.W.typeIn K (.ref C) = some (.type "type")
section
variable {X : Cx} {pr : List Nat} {W : WX} {cv : String → Value} {cl : Cl} {N : List Str} {sc : Scope} {fu : Nat}
theorem isStr_of {v : Expr} (h : isStr v = true) : ∃ x j p, v = .Constant (.str x) j p := by
  unfold isStr at h
  split at h
  · exact ⟨_, _, _, rfl⟩
  · cases h
theorem doc_run {v : Expr} {pos : Pos} (h : isStr v = true) : PS X (.Expr v pos) tNext := by
  obtain ⟨x, j, p, rfl⟩ := isStr_of h
  exact ps_doc
theorem gS_nx {st : Stmt} (h : PS X st tNext) : PS X st (tSt X.K pr W cv (exS cl pr fu .pass)) := h.of fun D σ H ⟨fm, π, F, r, hR, k⟩ => by
  unfold exS at k
  exact k σ F H (Ex.refl F) hR
mutual
theorem sS (g : GoodS cl cv N sc X) (tk : L2N.Takes X W) (hp : PassesOwn (model X.prog X.w) X.A X.env X.xe) (nl : noL X.K = true) : ∀ (pr : List Nat) (s : S) (st : Stmt), ckS N sc s st = true → (∀ c ∈ rsS s, RaiseOk X.K X.mg c (cv c)) → PS X st (tSt X.K pr W cv (exS cl pr fu s))
  | pr, .asg i e, st, h, hr => by
    unfold ckS at h
    split at h <;> first | (exact absurd h Bool.false_ne_true) | skip
    all_goals (rename_i heq; cases heq)
    obtain ⟨h0, h3⟩ := and2 h
    obtain ⟨h1, h2⟩ := and2 h0
    exact gS_asg g tk (of_decide_eq_true h1) h2 h3
  | pr, .unp tg e, st, h, hr => by
    unfold ckS at h
    split at h <;> first | (exact absurd h Bool.false_ne_true) | skip
    all_goals (rename_i heq; cases heq)
    obtain ⟨h0, h5⟩ := and2 h
    obtain ⟨h0, h4⟩ := and2 h0
    obtain ⟨h0, h3⟩ := and2 h0
    obtain ⟨h1, h2⟩ := and2 h0
    exact gS_unp g tk h1 h2 h3 h4 h5
  | pr, .par i j a b, st, h, hr => by
    unfold ckS at h
    split at h <;> first | (exact absurd h Bool.false_ne_true) | skip
    all_goals (rename_i heq; cases heq)
    obtain ⟨h0, h3⟩ := and2 h
    obtain ⟨h0, h1⟩ := and2 h0
    obtain ⟨h1, h2⟩ := and2 h1
    obtain ⟨h3, h4⟩ := and2 h3
    exact gS_par g tk h0 (of_decide_eq_true h1) (of_decide_eq_true h2) h3 h4
  | pr, .par3 i j l a b c, st, h, hr => by
    unfold ckS at h
    split at h <;> first | (exact absurd h Bool.false_ne_true) | skip
    all_goals (rename_i heq; cases heq)
    obtain ⟨h0, h3⟩ := and2 h
    obtain ⟨h0, h1⟩ := and2 h0
    obtain ⟨h1, h2⟩ := and2 h1
    obtain ⟨h2, h2'⟩ := and2 h2
    obtain ⟨h3, h4⟩ := and2 h3
    obtain ⟨h4, h5⟩ := and2 h4
    exact gS_par3 g tk h0 (of_decide_eq_true h1) (of_decide_eq_true h2) (of_decide_eq_true h2') h3 h4 h5
  | pr, .setIx i ix e, st, h, hr => by
    unfold ckS at h
    split at h <;> first | (exact absurd h Bool.false_ne_true) | skip
    all_goals (rename_i heq; cases heq)
    obtain ⟨h0, h3⟩ := and2 h
    obtain ⟨h0, h2⟩ := and2 h0
    obtain ⟨h0, h1⟩ := and2 h0
    obtain ⟨h3, h4⟩ := and2 h3
    exact gS_setIx g tk h0 h1 h2 h3 h4
  | pr, .aug i op e, st, h, hr => by
    unfold ckS at h
    split at h <;> first | (exact absurd h Bool.false_ne_true) | skip
    all_goals (rename_i heq; cases heq)
    obtain ⟨h0, h3⟩ := and2 h
    obtain ⟨h0, h1⟩ := and2 h0
    obtain ⟨h5, h4⟩ := and2 h0
    obtain ⟨h1, h2⟩ := and2 h1
    obtain rfl := of_decide_eq_true h4
    exact gS_aug g tk h5 (of_decide_eq_true h1) h2 h3
  | pr, .ex e, st, h, hr => by
    unfold ckS at h
    split at h <;> first | (exact absurd h Bool.false_ne_true) | skip
    all_goals (rename_i heq; cases heq)
    obtain ⟨h0, h3⟩ := and2 h
    exact gS_ex g tk h0 h3
  | pr, .ret e, st, h, hr => by
    unfold ckS at h
    split at h <;> first | (exact absurd h Bool.false_ne_true) | skip
    all_goals (rename_i heq; cases heq)
    exact gS_ret g tk h
  | pr, .ifs c a b, st, h, hr => by
    unfold ckS at h
    split at h <;> first | (exact absurd h Bool.false_ne_true) | skip
    all_goals (rename_i heq; cases heq)
    obtain ⟨h0, h3⟩ := and2 h
    obtain ⟨h0, h1⟩ := and2 h0
    obtain ⟨h3, h4⟩ := and2 h3
    exact gS_if g tk h0 h1 (sSs g tk hp nl pr a _ h3 fun c hc => hr c (by unfold rsS; exact List.mem_append_left _ hc)) (sSs g tk hp nl pr b _ h4 fun c hc => hr c (by unfold rsS; exact List.mem_append_right _ hc))
  | pr, .whl c b, st, h, hr => by
    unfold ckS at h
    split at h <;> first | (exact absurd h Bool.false_ne_true) | skip
    all_goals (rename_i heq; cases heq)
    obtain ⟨h0, h3⟩ := and2 h
    obtain ⟨h0, h1⟩ := and2 h0
    exact gS_whl g tk hp h0 h1 (sSs g tk hp nl pr b _ h3 fun c hc => hr c (by unfold rsS; exact hc))
  | pr, .fo tg it b, st, h, hr => by
    unfold ckS at h
    split at h <;> first | (exact absurd h Bool.false_ne_true) | skip
    all_goals (rename_i heq; cases heq)
    obtain ⟨h0, h3⟩ := and2 h
    obtain ⟨h0, h1⟩ := and2 h0
    exact gS_for g tk hp h0 h1 (sSs g tk hp nl pr b _ h3 fun c hc => hr c (by unfold rsS; exact hc))
  | pr, .brk, st, h, hr => by
    unfold ckS at h
    split at h <;> first | (exact absurd h Bool.false_ne_true) | skip
    all_goals (rename_i heq; cases heq)
    exact ps_break.of fun D σ H ⟨fm, π, F, r, hR, k⟩ => by
      unfold exS at k
      exact k σ F H (Ex.refl F) hR
  | pr, .cont, st, h, hr => by
    unfold ckS at h
    split at h <;> first | (exact absurd h Bool.false_ne_true) | skip
    all_goals (rename_i heq; cases heq)
    exact ps_continue.of fun D σ H ⟨fm, π, F, r, hR, k⟩ => by
      unfold exS at k
      exact k σ F H (Ex.refl F) hR
  | pr, .pass, st, h, hr => by
    unfold ckS at h
    split at h <;> first | (exact absurd h Bool.false_ne_true) | skip
    all_goals (rename_i heq; cases heq)
    · exact gS_nx ps_pass
    · exact gS_nx (doc_run h)
  | pr, .swap i a j b e, st, h, hr => by
    unfold ckS at h
    split at h <;> first | (exact absurd h Bool.false_ne_true) | skip
    all_goals (rename_i heq; cases heq)
    obtain ⟨h0, h3⟩ := and2 h
    obtain ⟨h0, h2⟩ := and2 h0
    obtain ⟨h0, h1⟩ := and2 h0
    obtain ⟨h3, h6⟩ := and2 h3
    obtain ⟨h3, h5⟩ := and2 h3
    obtain ⟨h2, h8⟩ := and2 h2
    obtain ⟨h2, h7⟩ := and2 h2
    exact gS_swap g tk h0 h1 h2 h7 h8 h3 h5 h6
  | pr, .never, st, h, hr => ps_never.of fun D σ H ⟨fm, π, F, r, hR, k⟩ => by
    unfold exS at k
    exact k.no.elim
  | pr, .raise c, st, h, hr => by
    unfold ckS at h
    split at h <;> first | (exact absurd h Bool.false_ne_true) | skip
    all_goals (rename_i heq; cases heq)
    obtain ⟨h0, h2⟩ := and2 h
    obtain ⟨h0, h1⟩ := and2 h0
    obtain rfl := of_decide_eq_true h0
    obtain ⟨C, e1, e2, e3, e4, e5, e6⟩ := hr _ (by unfold rsS; exact List.mem_cons_self)
    refine (L2N.ps_raise g.calm tk (L2N.pmk_own PySem.F.excBase_ValueError e3 e2 e4 (raises_own e5 e6) (g.gl h1) (okName_of h2).1)).of fun D σ H ⟨fm, π, F, r, hR, k⟩ => ?_
    unfold exS at k
    rw [← e1]
    exact k σ F H (Ex.refl F) hR
termination_by _ s => sizeOf s
theorem sSs (g : GoodS cl cv N sc X) (tk : L2N.Takes X W) (hp : PassesOwn (model X.prog X.w) X.A X.env X.xe) (nl : noL X.K = true) : ∀ (pr : List Nat) (ss : Ss) (sts : List Stmt), ckSs N sc ss sts = true → (∀ c ∈ rsSs ss, RaiseOk X.K X.mg c (cv c)) → PSs X sts (tSt X.K pr W cv (exSs cl pr fu ss))
  | pr, .nil, [], _, _ => ⟨fun pins s σ H D I ⟨fm, π, F, r, hR, k⟩ => pss_nil.run pins s σ H D I (by
      unfold exSs at k
      exact k σ F H (Ex.refl F) hR)⟩
  | pr, .nil, _ :: _, h, _ => absurd h Bool.false_ne_true
  | pr, .cons _ _, [], h, _ => absurd h Bool.false_ne_true
  | pr, .cons s ss, st :: sts, h, hr => by
    have h : (ckS N sc s st && ckSs N sc ss sts) = true := h
    have h1 := sS g tk hp nl pr s st (and2 h).1 fun c hc => hr c (by unfold rsSs; exact List.mem_append_left _ hc)
    have h2 := sSs g tk hp nl pr ss sts (and2 h).2 fun c hc => hr c (by unfold rsSs; exact List.mem_append_right _ hc)
    refine ⟨fun pins sh σ H D I ⟨fm, π, F, r, hR, k⟩ => (pss_cons h1 h2).run pins sh σ H D I ⟨fm, π, F, r, hR, ?_⟩⟩
    unfold exSs at k
    cases he : exS cl pr fu s r with
    | no => rw [he] at k; exact k.no.elim
    | ex c r' => rw [he] at k; exact k
    | ok f r' =>
      rw [he] at k
      cases f with
      | nx => exact fun σ' F' H' e p => ⟨fm, π, F', r', p, GoS.up k e⟩
      | bk => exact k
      | ct => exact k
      | rt a => exact k
  | pr, .scope keep mid x i kk rest, sts, h, hr => by
    unfold ckSs at h
    obtain ⟨h, h4⟩ := and2 h
    obtain ⟨h, h3⟩ := and2 h
    obtain ⟨h1, h2⟩ := and2 h
    split at h2
    · rename_i b1 b2 tl e0
      have hd2 : sts.drop (lenSs mid + 2) = tl := by
        have z : (sts.drop (lenSs mid)).drop 2 = tl := by rw [e0]; rfl
        rwa [List.drop_drop] at z
      rw [hd2] at h4
      have esp : sts = sts.take (lenSs mid) ++ (b1 :: b2 :: tl) := by rw [← e0, List.take_append_drop]
      have hrest := sSs g tk hp nl pr rest tl h4 fun c hc => hr c (by unfold rsSs; exact List.mem_append_right _ hc)
      have hkill := ps_kill g hp h2 hrest
      have hmid := sSsA g tk hp nl keep mid (sts.take (lenSs mid)) h3 h1 (fun c hc => hr c (by unfold rsSs; exact List.mem_append_left _ hc)) hkill
      rw [esp]
      refine ⟨fun pins sh σ H D I ⟨fm, π, F, r, hR, k⟩ => hmid.run pins sh σ H D I ⟨_, [], _, _, hR.small keep, ?_⟩⟩
      unfold exSs at k
      split at k
      · rename_i hsc
        unfold scopeOk at hsc
        obtain ⟨hsc, s6⟩ := and2 hsc
        obtain ⟨hsc, s5⟩ := and2 hsc
        obtain ⟨hsc, s4⟩ := and2 hsc
        obtain ⟨hsc, s3⟩ := and2 hsc
        obtain ⟨s1, s2⟩ := and2 hsc
        have hpk : ∀ j ∈ pr, j ∈ keep := fun j hj => by simpa using List.all_eq_true.mp s1 j hj
        have ni : i ∉ keep := by simpa using s4
        have same : ∀ {fm' : Fm} {σ' : St} {F' H' : Hp} {r1 : Ro}, fm'.L = smL σ keep → R X.K fm' keep [] F' σ' r1 H' → ∀ j ∈ keep, ∀ v, σ[j]? = some v → σ'[j]? = some v := fun {fm' σ' F' H' r1} eL hR' j hj v e => (hR'.kp (j, v) (by rw [eL]; exact smL_mem.mpr ⟨hj, e⟩)).2
        cases he : exSs cl keep fu mid (hideR keep 0 r) with
        | no => rw [he] at k; exact k.no.elim
        | ex c r' => rw [he] at k; exact k.no.elim
        | ok f r1 =>
          rw [he] at k
          cases f with
          | bk => exact k.no.elim
          | ct => exact k.no.elim
          | nx =>
            dsimp only at k
            split at k
            · rename_i hk
              obtain ⟨k1, k2⟩ := and2 hk
              have k1 := of_decide_eq_true k1
              intro σ' F' H' e hR'
              obtain ⟨p, vs, g1, g2, g3, g4, g5⟩ := hR'.inner nl k2
              have hl : σ'.length = σ.length := by rw [hR'.len, k1, hR.len]
              refine ⟨p, vs, g1, g2, g4, fun v hv => ?_, ?_, of_decide_eq_true s5, fun σ2 H2 l1 l2 l3 => ⟨fm, π, F, _, hR.after (fun b o z => ?_) (by rw [l1, hl]) (fun j hj v z => ?_) hpk s2, k⟩⟩
              · obtain ⟨a, ws, y1, y2, y3, _, y5, y6⟩ := g5 v hv
                exact ⟨a, ws, y1, y2, y3, y5, y6⟩
              · rw [hl, hR.len]
                exact of_decide_eq_true s6
              · refine l3 b o (fun zz => ?_) (fun zz => ?_) (hR'.fr b o (fun zz => ?_) z)
                · rw [zz, g3] at z
                  cases z
                · obtain ⟨a, ws, y1, _, _, y4, _⟩ := g5 _ zz
                  cases y1
                  rw [y4] at z
                  cases z
                · have zz : H b = none := zz
                  rw [zz] at z
                  cases z
              · rw [l2 j (fun zz => ni (zz ▸ hj))]
                exact same rfl hR' j hj v z
            · exact k.no.elim
          | rt a =>
            cases a with
            | ow d => exact k.no.elim
            | fz d =>
              dsimp only at k
              split at k
              · rename_i hk
                obtain ⟨k1, k2⟩ := and2 hk
                have k1 := of_decide_eq_true k1
                intro σ' F' H' v e hR'
                obtain ⟨hR', hd⟩ := hR'
                have hl : σ'.length = σ.length := by rw [hR'.len, k1, hR.len]
                refine k σ' F H' v (Ex.refl F) ⟨hR.after (fun b o z => hR'.fr b o (fun zz => ?_) z) hl (same rfl hR') hpk s2, ?_⟩
                · have zz : H b = none := zz
                  rw [zz] at z
                  cases z
                · cases d with
                  | none => cases hd; exact .non
                  | bool _ => cases hd; exact .bl _
                  | int _ => cases hd; exact .int _
                  | str _ => cases hd; exact .str _
                  | _ => cases k2
              · exact k.no.elim
      · exact k.no.elim
    · cases h2
termination_by _ ss => sizeOf ss
theorem sSsA (g : GoodS cl cv N sc X) (tk : L2N.Takes X W) (hp : PassesOwn (model X.prog X.w) X.A X.env X.xe) (nl : noL X.K = true) : ∀ (pr : List Nat) (ss : Ss) (sts : List Stmt), ckSs N sc ss sts = true → flatSs ss = true → (∀ c ∈ rsSs ss, RaiseOk X.K X.mg c (cv c)) → ∀ {rest : List Stmt} {u : TS}, PSs X rest u →
    PSs X (sts ++ rest) (fun D σ H => tSt X.K pr W cv (exSs cl pr fu ss) { D with nx := u D } σ H)
  | pr, .nil, [], _, _, _, rest, u, hu => ⟨fun pins s σ H D I ⟨fm, π, F, r, hR, k⟩ => hu.run pins s σ H D I (by
      unfold exSs at k
      exact k σ F H (Ex.refl F) hR)⟩
  | pr, .nil, _ :: _, h, _, _, _, _, _ => absurd h Bool.false_ne_true
  | pr, .cons _ _, [], h, _, _, _, _, _ => absurd h Bool.false_ne_true
  | pr, .scope _ _ _ _ _ _, _, _, hf, _, _, _, _ => absurd hf Bool.false_ne_true
  | pr, .cons s ss, st :: sts, h, hf, hr, rest, u, hu => by
    have h : (ckS N sc s st && ckSs N sc ss sts) = true := h
    have h1 := sS g tk hp nl pr s st (and2 h).1 fun c hc => hr c (by unfold rsSs; exact List.mem_append_left _ hc)
    have h2 := sSsA g tk hp nl pr ss sts (and2 h).2 hf (fun c hc => hr c (by unfold rsSs; exact List.mem_append_right _ hc)) hu
    refine ⟨fun pins sh σ H D I ⟨fm, π, F, r, hR, k⟩ => (pss_cons h1 h2).run pins sh σ H D I ⟨fm, π, F, r, hR, ?_⟩⟩
    unfold exSs at k
    cases he : exS cl pr fu s r with
    | no => rw [he] at k; exact k.no.elim
    | ex c r' => rw [he] at k; exact k
    | ok f r' =>
      rw [he] at k
      cases f with
      | nx => exact fun σ' F' H' e p => ⟨fm, π, F', r', p, GoS.up k e⟩
      | bk => exact k
      | ct => exact k
      | rt a => exact k
termination_by _ ss => sizeOf ss
end
end
/-! ### defs -/
def fnB (cl : Cl) (fu n m : Nat) (body : Ss) : Fn := fun as => if as.length = m then runF cl fu n body as else none
/-- the own arguments, with their addresses -/
def ownP (vs : List V) (as : List Arg) : List (Nat × Addr) := (List.range vs.length).filterMap fun (k : Nat) => match as[k]?, vs[k]? with
  | some (Arg.ow _), some (V.ref a) => some (k, a)
  | _, _ => none
theorem ownP_mem {vs : List V} {as : List Arg} {q : Nat × Addr} : q ∈ ownP vs as ↔ ∃ d, as[q.1]? = some (.ow d) ∧ vs[q.1]? = some (V.ref q.2) := by
  unfold ownP
  rw [List.mem_filterMap]
  constructor
  · rintro ⟨k, hk, e⟩
    split at e
    · rename_i d a h1 h2
      cases e
      exact ⟨d, h1, h2⟩
    · cases e
  · rintro ⟨d, h1, h2⟩
    have hl : q.1 < vs.length := (List.getElem?_eq_some_iff.mp h2).1
    exact ⟨q.1, List.mem_range.mpr hl, by rw [h1, h2]⟩
theorem protOf_mem {as : List Arg} {k : Nat} {d : D} : ∀ {m : Nat}, as[k]? = some (.ow d) → m + k ∈ protOf as m := by
  induction as generalizing k with
  | nil => intro m h; simp at h
  | cons a r ih =>
    intro m h
    cases k with
    | zero =>
      simp at h
      subst h
      show m + 0 ∈ m :: protOf r (m + 1)
      rw [Nat.add_zero]
      exact List.mem_cons_self
    | succ k =>
      have := ih (k := k) (m := m + 1) (by simpa using h)
      have e : m + 1 + k = m + (k + 1) := by omega
      rw [e] at this
      cases a with
      | fz _ => exact this
      | ow _ => exact List.mem_cons_of_mem _ this
theorem outsOf_at {r : Ro} : ∀ {as outs : List Arg} {m : Nat}, outsOf as m r = some outs → outs.length = as.length ∧ ∀ (k : Nat) (d d' : D), as[k]? = some (.ow d) → (outs[k]? = some (.ow d') → r[m + k]? = some (.ow d')) ∧ (outs[k]? = some (.fz d') → r[m + k]? = some (.fz d'))
  | [], outs, m, h => by
    cases h
    exact ⟨rfl, fun k d d' h => by simp at h⟩
  | .fz d0 :: as, outs, m, h => by
    unfold outsOf at h
    obtain ⟨o, ho, rfl⟩ := Option.map_eq_some_iff.mp h
    obtain ⟨h1, h2⟩ := outsOf_at ho
    refine ⟨by simp [h1], fun k d d' hk => ?_⟩
    cases k with
    | zero => simp at hk
    | succ k =>
      have := h2 k d d' (by simpa using hk)
      have e : m + 1 + k = m + (k + 1) := by omega
      rw [e] at this
      simpa using this
  | .ow d0 :: as, outs, m, h => by
    unfold outsOf at h
    cases hm : r[m]? with
    | none => simp only [hm] at h; cases h
    | some s =>
      cases ho : outsOf as (m + 1) r with
      | none => simp only [hm, ho] at h; cases s <;> cases h
      | some o =>
        obtain ⟨h1, h2⟩ := outsOf_at ho
        have step : ∀ (k : Nat) (d d' : D) (b : Arg), (.ow d0 :: as)[k + 1]? = some (.ow d) → ((b :: o)[k + 1]? = some (.ow d') → r[m + (k + 1)]? = some (.ow d')) ∧ ((b :: o)[k + 1]? = some (.fz d') → r[m + (k + 1)]? = some (.fz d')) := fun k d d' b hk => by
          have := h2 k d d' (by simpa using hk)
          have e : m + 1 + k = m + (k + 1) := by omega
          rw [e] at this
          simpa using this
        simp only [hm, ho] at h
        cases s with
        | ow d1 =>
          cases h
          refine ⟨by simp [h1], fun k d d' hk => ?_⟩
          cases k with
          | zero => exact ⟨fun z => by simp at z; subst z; exact hm, fun z => by simp at z⟩
          | succ k => exact step k d d' _ hk
        | fz d1 =>
          cases h
          refine ⟨by simp [h1], fun k d d' hk => ?_⟩
          cases k with
          | zero => exact ⟨fun z => by simp at z, fun z => by simp at z; subst z; exact hm⟩
          | succ k => exact step k d d' _ hk
        | un => cases h
        | lk _ => cases h
/-- the frame's facts at a def's entry -/
def fmOf (F H : Hp) (vs : List V) (as : List Arg) : Fm := ⟨H, F, fun a => H a = none ∨ OwnA vs as a, fun a h => .inl h, ownP vs as, []⟩
theorem sl_at {as : List Arg} {n i : Nat} {s : Sl} (h : (as.map Arg.sl ++ List.replicate n Sl.un)[i]? = some s) (hs : s ≠ .un) : ∃ a, as[i]? = some a ∧ a.sl = s := by
  rcases Nat.lt_or_ge i as.length with hi | hi
  · rw [List.getElem?_append_left (by simpa using hi), List.getElem?_map] at h
    obtain ⟨a, h1, h2⟩ := Option.map_eq_some_iff.mp h
    exact ⟨a, h1, h2⟩
  · rw [List.getElem?_append_right (by simpa using hi)] at h
    have := List.eq_of_mem_replicate (List.mem_of_getElem? h)
    exact absurd this hs
theorem start_at {N : List Str} {vs : List V} {i : Nat} {v : V} (h : vs[i]? = some v) : (L2.start N vs)[i]? = some (some v) := by
  unfold L2.start
  have hi : i < vs.length := (List.getElem?_eq_some_iff.mp h).1
  rw [List.getElem?_append_left (by simpa using hi), List.getElem?_map, h]
  rfl
theorem start_of {N : List Str} {vs : List V} {i : Nat} {v : V} (h : (L2.start N vs)[i]? = some (some v)) : vs[i]? = some v := by
  unfold L2.start at h
  rcases Nat.lt_or_ge i vs.length with hi | hi
  · rw [List.getElem?_append_left (by simpa using hi), List.getElem?_map] at h
    obtain ⟨a, h1, h2⟩ := Option.map_eq_some_iff.mp h
    cases h2
    exact h1
  · rw [List.getElem?_append_right (by simpa using hi)] at h
    have := List.eq_of_mem_replicate (List.mem_of_getElem? h)
    cases this
theorem R.start {K : Frag} {F H : Hp} {vs : List V} {as : List Arg} {N : List Str} (ex : Ex F H) (ar : ArgsRep K F H vs as) : R K (fmOf F H vs as) (protOf as 0) [] F (L2.start N vs) (as.map Arg.sl ++ List.replicate (N.length - as.length) .un) H := by
  have getv : ∀ {k : Nat} {a : Arg}, as[k]? = some a → ∃ v, vs[k]? = some v := fun {k a} h => by
    have : k < vs.length := by rw [ar.len]; exact (List.getElem?_eq_some_iff.mp h).1
    exact ⟨vs[k], by simp [this]⟩
  have owA : ∀ {i : Nat} {d : D}, (as.map Arg.sl ++ List.replicate (N.length - as.length) Sl.un)[i]? = some (.ow d) → as[i]? = some (.ow d) := fun {i d} h => by
    obtain ⟨a, h1, h2⟩ := sl_at h (by simp)
    cases a with
    | fz _ => cases h2
    | ow _ => cases h2; exact h1
  refine ⟨?_, ex, fun a o _ e => e, Ex.refl F, fun a o e => .inl ⟨o, e⟩, fun i d e => ?_, fun i d e => ?_, fun i j d e a h1 h2 h3 h4 => ?_, fun p hp => absurd hp (by simp), List.nodup_nil, fun p hp => absurd hp (by simp), fun i d e => ?_, fun q hq => ?_, fun q hq d e => ?_, fun q hq i d h1 h2 => ?_, fun q hq => ?_, fun p hp => absurd hp (by simp), fun q hq => absurd hq (by simp [fmOf])⟩
  · unfold L2.start
    simp [ar.len]
  · obtain ⟨a, h1, h2⟩ := sl_at e (by simp)
    cases a with
    | ow _ => cases h2
    | fz _ =>
      cases h2
      obtain ⟨v, hv⟩ := getv h1
      exact ⟨v, start_at hv, ar.fz i v d hv h1⟩
  · have h1 := owA e
    obtain ⟨v, hv⟩ := getv h1
    obtain ⟨a, o, rfl, h2, h3, h4⟩ := ar.ow i v d hv h1
    exact ⟨a, o, start_at hv, h2, h3, h4, .inr ⟨i, d, h1, hv⟩, fun p hp => absurd hp (by simp)⟩
  · exact ar.nd i j d e a (owA h1) (owA h2) (start_of h3) (start_of h4)
  · obtain ⟨a, h1, h2⟩ := sl_at e (by simp)
    cases a <;> cases h2
  · obtain ⟨d, h1, h2⟩ := ownP_mem.mp hq
    have := protOf_mem (m := 0) h1
    rw [Nat.zero_add] at this
    exact ⟨this, start_at h2, .inr ⟨q.1, d, h1, h2⟩⟩
  · obtain ⟨d', h1, h2⟩ := ownP_mem.mp hq
    obtain ⟨a, h3, h4⟩ := sl_at e (by simp)
    rw [h1] at h3
    cases h3
    cases h4
  · obtain ⟨d', g1, g2⟩ := ownP_mem.mp hq
    exact ar.nd i q.1 d d' q.2 (owA h1) g1 (start_of h2) g2
  · obtain ⟨d', g1, g2⟩ := ownP_mem.mp hq
    obtain ⟨a, o, e, h2, _⟩ := ar.ow q.1 _ d' g2 g1
    cases e
    exact ⟨o, h2⟩
theorem R.leave {K : Frag} {F H F' H' : Hp} {vs : List V} {as outs : List Arg} {pr : List Nat} {σ : St} {r : Ro} (h : R K (fmOf F H vs as) pr [] F' σ r H') (ho : outsOf as 0 r = some outs) : Aft K F H vs as outs F' H' := by
  obtain ⟨h1, h2⟩ := outsOf_at ho
  refine ⟨h.old, h.sub, fun a o hn e => h.fr a o (fun z => z.elim (fun q => by rw [q] at e; cases e) hn) e, fun a o e => (h.nw a o e).imp_right fun z => z, h1, fun k a d d' e1 e2 e3 => ?_, fun k a d d' e1 e2 e3 => ?_⟩
  · have := (h2 k d d' e2).1 e3
    rw [Nat.zero_add] at this
    obtain ⟨b, o, g1, g2, g3, g4, _⟩ := h.ow k d' this
    have g5 := (h.par (k, a) (ownP_mem.mpr ⟨d, e2, e1⟩)).2.1
    rw [g1] at g5
    cases g5
    exact ⟨o, g2, g3, g4⟩
  · have := (h2 k d d' e2).2 e3
    rw [Nat.zero_add] at this
    obtain ⟨v, g1, g2⟩ := h.fz k d' this
    have hq : (k, a) ∈ (fmOf F H vs as).P := ownP_mem.mpr ⟨d, e2, e1⟩
    have g5 := (h.par (k, a) hq).2.1
    rw [g1] at g5
    cases g5
    obtain ⟨o, w1, w2⟩ := h.par2 (k, a) hq d' this
    exact ⟨o, w1, w2, g2⟩
section
variable {P : Program} {w : World} {K : Frag} {mg : Str → Option Value} {base : Heap} {cl : Cl} {cv : String → Value}
/-- what a def finds: the callees and the built-in names -/
structure Env1 (P : Program) (w : World) (K : Frag) (mg : Str → Option Value) (base : Heap) (cl : Cl) (cv : String → Value) (k : Nat) : Prop where
  fns : ∀ (f : String) (fn : Fn), cl f = some fn → ∃ (a : Addr) (fd : FuncData) (ps : List Str) (j : Nat), FnOk P w K mg base (L2N.CX P w) j a fd ps (spOf K cv ps.length fn) ∧ j ≤ k ∧ mg (Str.ofString f) = some (.ref a) ∧ PySem.W.keepIn K (.ref a) = true ∧ Binds K fd ps [] ∧ ∀ as z, fn as = some z → as.length = ps.length
  blt : ∀ b ∈ blts, mg (Str.ofString b) = none
  nl : noL K = true
theorem okXN {x qual : Str} {st : Stmt} {f : Addr} {fd : FuncData} {N ps : List Str} {k : Nat} {sp : Sp} {P : Program} {w : World} {K : Frag} {mg : Str → Option Value} {base : Heap} (F : Fun K x qual st f fd) (S : FnScope N ps (defScope st)) (len : ∀ vs H Q E, sp vs H Q E → vs.length = ps.length)
    (hbody : ∀ (cdv : Value) (A : Around) (outer : List Env) (s : Shared) (H : Hp) (vs : List V) (Q : VK) (E : XK), Room k (A.deeper (envOfC qual (defScope st) s.heap.objs.size f cdv)) → sp vs H Q E →
      ∃ t, PSs (cxOf (L2N.CX P w) P w K mg base N qual (defScope st) f cdv A outer s H E) (defBody st) t ∧ t { nx := fun _ H' => Q .non H', rt := Q } (start N vs) H) : FnOk P w K mg base (L2N.CX P w) (k + 1) f fd ps sp := by
  obtain ⟨oc, od, kV, doc, pm, an, cdv, ct, osl, rfl, lk, hcd⟩ := F.ex
  exact fn_of lk hcd S len fun A outer s H vs Q E hr hsp => hbody cdv A outer s H vs Q E hr hsp
theorem fn_ok {x qual : Str} {st : Stmt} {f : Addr} {fd : FuncData} {N ps : List Str} {k fu : Nat} {body : Ss} (Fu : Fun K x qual st f fd) (S : FnScope N ps (defScope st)) (en : Env1 P w K mg base cl cv k) (hck : ckSs N (defScope st) body (defBody st) = true) (hrs : ∀ c ∈ rsSs body, RaiseOk K mg c (cv c)) (hgm : ∀ c ∈ cstTab, Str.ofString c.2.1 ∈ N → ∃ v u, mg (Str.ofString c.1) = some u ∧ RelV v u ∧ ∀ F, Dp K F v c.2.2) :
    FnOk P w K mg base (L2N.CX P w) (k + 1) f fd ps (spOf K cv ps.length (fnB cl fu N.length ps.length body)) := by
  refine okXN Fu S (fun vs H Q E h => h.1) fun cdv A outer s H vs Q E hr ⟨hl, F, as, out, outs, ex, ar, hf, kk⟩ => ?_
  have hfr : fnB cl fu N.length ps.length body as = runF cl fu N.length body as := by
    unfold fnB
    rw [if_pos (by rw [← ar.len, hl])]
  rw [hfr] at hf
  have tk : L2N.Takes (cxOf (L2N.CX P w) P w K mg base N qual (defScope st) f cdv A outer s H E) (fun cls d _ H => E cls d H) := L2N.takes_of rfl rfl rfl rfl
  have hp : PassesOwn (model P w) (A.deeper (envOfC qual (defScope st) s.heap.objs.size f cdv)) (cxOf (L2N.CX P w) P w K mg base N qual (defScope st) f cdv A outer s H E).env (cxOf (L2N.CX P w) P w K mg base N qual (defScope st) f cdv A outer s H E).xe := passes_of rfl
  have g : GoodS cl cv N (defScope st) (cxOf (L2N.CX P w) P w K mg base N qual (defScope st) f cdv A outer s H E) := by
    refine ⟨⟨rfl, S.nd, rfl, rfl, ?_, fun f fn hf => ?_, en.blt, hgm⟩, S.kind, fun _ => rfl⟩
    · have := hr.un
      show (A.deeper (envOfC qual (defScope st) s.heap.objs.size f cdv)).units + 64 < cLine
      omega
    · obtain ⟨a, fd, ps, j, h1, h2, h3⟩ := en.fns f fn hf
      exact ⟨a, fd, ps, j, h1, hr.mono h2, h3⟩
  refine ⟨_, sSs (fu := fu) g tk hp en.nl (protOf as 0) body (defBody st) hck hrs, fmOf F H vs as, [], F, _, R.start (N := N) ex ar, ?_⟩
  unfold runF at hf
  cases he : exSs cl (protOf as 0) fu body (as.map Arg.sl ++ List.replicate (N.length - as.length) .un) with
  | no => rw [he] at hf; cases hf
  | ex c r =>
    rw [he] at hf
    obtain ⟨o, ho, e⟩ := Option.map_eq_some_iff.mp hf
    cases e
    exact fun σ' F' H' e h => kk F' H' (h.leave ho)
  | ok fl r =>
    rw [he] at hf
    cases fl with
    | nx =>
      obtain ⟨o, ho, e⟩ := Option.map_eq_some_iff.mp hf
      cases e
      exact fun σ' F' H' e h => kk F' H' (h.leave ho) _ .non
    | bk => cases hf
    | ct => cases hf
    | rt a =>
      obtain ⟨o, ho, e⟩ := Option.map_eq_some_iff.mp hf
      cases e
      intro σ' F' H' v e h
      cases a with
      | fz d => exact kk F' H' (h.1.leave ho) v h.2
      | ow d =>
        obtain ⟨p, ob, rfl, hR, hc, hq⟩ := h
        obtain ⟨p1, p2, p3⟩ := hR.pin ⟨none, p, ob⟩ List.mem_cons_self
        refine kk F' H' ((hR.drop rfl).leave ho) p ob ?_ p2 p1 hc
        rcases p3 with z | ⟨k', d', z1, z2⟩
        · exact z
        · exact absurd rfl (hq (k', p) (ownP_mem.mpr ⟨d', z1, z2⟩))
end
end Rk

/-! Rk, part Q: a program's defs one on another; the law's end. -/
namespace Rk
open PySem PySem.Spec PyProof.Rows L2
def clNil : Cl := fun _ => none
def clCons (n : String) (fn : Fn) (cl : Cl) : Cl := fun s => if s = n then some fn else cl s
section
variable {P : Program} {w : World} {K : Frag} {mg : Str → Option Value} {base : Heap} {cl : Cl} {cv : String → Value}
/-- the def n does what fn says -/
def Has (P : Program) (w : World) (K : Frag) (mg : Str → Option Value) (base : Heap) (cv : String → Value) (k : Nat) (f : String) (fn : Fn) : Prop := ∃ (a : Addr) (fd : FuncData) (ps : List Str) (j : Nat), FnOk P w K mg base (L2N.CX P w) j a fd ps (spOf K cv ps.length fn) ∧ j ≤ k ∧ mg (Str.ofString f) = some (.ref a) ∧ PySem.W.keepIn K (.ref a) = true ∧ Binds K fd ps [] ∧ ∀ as z, fn as = some z → as.length = ps.length
theorem Has.mono {k j : Nat} {f : String} {fn : Fn} (h : Has P w K mg base cv j f fn) (e : j ≤ k) : Has P w K mg base cv k f fn := by
  obtain ⟨a, fd, ps, i, h1, h2, h3⟩ := h
  exact ⟨a, fd, ps, i, h1, Nat.le_trans h2 e, h3⟩
theorem env0 {k : Nat} (hb : ∀ b ∈ blts, mg (Str.ofString b) = none) (nl : noL K = true) : Env1 P w K mg base clNil cv k := ⟨fun f fn h => (by cases h), hb, nl⟩
theorem envS {k : Nat} {f : String} {fn : Fn} (h : Has P w K mg base cv k f fn) (e : Env1 P w K mg base cl cv k) : Env1 P w K mg base (clCons f fn cl) cv k := ⟨fun g fn' h' => by
  unfold clCons at h'
  split at h'
  · rename_i e'
    subst e'
    cases h'
    exact h
  · exact e.fns g fn' h', e.blt, e.nl⟩
/-- a def, by its checked text -/
theorem def_ok {x qual : Str} {n : String} {st : Stmt} {f : Addr} {fd : FuncData} {N ps : List Str} {k fu : Nat} {body : Ss} (Fu : Fun K x qual st f fd) (hb : Binds K fd ps []) (hm : mg (Str.ofString n) = some (.ref f)) (S : FnScope N ps (defScope st)) (en : Env1 P w K mg base cl cv k) (hck : ckSs N (defScope st) body (defBody st) = true) (hrs : ∀ c ∈ rsSs body, RaiseOk K mg c (cv c) := by intro c hc; exact absurd hc (List.not_mem_nil (a := c))) (hgm : ∀ c ∈ cstTab, Str.ofString c.2.1 ∈ N → ∃ v u, mg (Str.ofString c.1) = some u ∧ RelV v u ∧ ∀ F, Dp K F v c.2.2 := by intro c hc hm; exact absurd hm (by revert c; decide +kernel)) :
    Has P w K mg base cv (k + 1) n (fnB cl fu N.length ps.length body) :=
  ⟨f, fd, ps, k + 1, fn_ok Fu S en hck hrs hgm, Nat.le_refl _, hm, Fu.kp, hb, fun as z e => by
    unfold fnB at e
    split at e
    · assumption
    · cases e⟩
theorem def_fn {x qual : Str} {st : Stmt} {f : Addr} {fd : FuncData} {N ps : List Str} {k fu : Nat} {body : Ss} (Fu : Fun K x qual st f fd) (S : FnScope N ps (defScope st)) (en : Env1 P w K mg base cl cv k) (hck : ckSs N (defScope st) body (defBody st) = true) (hrs : ∀ c ∈ rsSs body, RaiseOk K mg c (cv c) := by intro c hc; exact absurd hc (List.not_mem_nil (a := c))) (hgm : ∀ c ∈ cstTab, Str.ofString c.2.1 ∈ N → ∃ v u, mg (Str.ofString c.1) = some u ∧ RelV v u ∧ ∀ F, Dp K F v c.2.2 := by intro c hc hm; exact absurd hm (by revert c; decide +kernel)) :
    FnOk P w K mg base (L2N.CX P w) (k + 1) f fd ps (spOf K cv ps.length (fnB cl fu N.length ps.length body)) := fn_ok Fu S en hck hrs hgm
end
/-- the law's promise -/
def LawTrue (fn : Fn) : Prop := ∀ ns : List Int, ns.length ≤ 63 → ∃ outs, fn [.fz (.list (ns.map .int))] = some (.val (.fz (.bool true)), outs)
theorem law_walk {l : PySem.W.OpenLaw} {q : Program} {loose : List Str} {XP : (Str → Option Value) → Heap → Prop} {YP : World → Heap → Prop} {d : DefRec} {K : Params → PySem.W.Frag} {fn : Fn} {cv : String → Value} {k : Nat} (hn : l.most = some 63) (hdf : d.params.defaults = []) (hr : Room k callerA) (hfn : LawTrue fn)
    (hY : ∀ (w : World) (h : Heap), YP w h → (K w.params).In h)
    (F : ∀ (w : World) (mg : Str → Option Value) (fa : Addr) (h : Heap), (K w.params).In h → h.Ns mainGlobals mg → mg d.name = some (.ref fa) →
      ∃ fd : FuncData, (∀ (s : Shared) (u : Value), BindsTo s fd ⟨[u], []⟩ [("_law_script", u)]) ∧ ∀ base : Heap, (K w.params).In base → base.Ns mainGlobals mg → FnOk l.prog w (K w.params) mg base (L2N.CX l.prog w) k fa fd ["_law_script"] (spOf (K w.params) cv 1 fn)) :
    PySem.W.WalkO q loose XP YP l.row.toRowW d [] (fun f vs => PySem.call f vs) := by
  refine L2.walk_of (n := 63) (k := k) (x := "_law_script") (CX := fun w => L2N.CX l.prog w) (sp := fun w => spOf (K w.params) cv 1 fn) hn (by decide) hdf hr hY F (fun w H a ns hl _ hS => ?_) fun _ _ _ _ _ z => ?_
  · obtain ⟨outs, ho⟩ := hfn ns hl
    refine ⟨rfl, H, [.fz (.list (ns.map .int))], _, outs, Ex.refl H, ⟨rfl, fun k v d e1 e2 => ?_, fun k v d e1 e2 => ?_, fun k l d e a e1 => ?_⟩, ho, fun F' H' _ v hv => ?_⟩
    · cases k with
      | zero =>
        cases e1
        cases e2
        exact .lst hS (DpAll.ofInts ns)
      | succ k => simp at e1
    · cases k with
      | zero => cases e2
      | succ k => simp at e1
    · cases k with
      | zero => cases e1
      | succ k => simp at e1
    · cases hv
      rfl
  · obtain ⟨_, _, _, _, _, _, _, _, _, _, _, _, z⟩ := z
    exact z.elim
end Rk

/-! Rk, part R: loops by what stays true; the helpers that every law has. -/
namespace Rk
open PySem PySem.Spec PyProof.Rows L2
theorem forL_run {pr : List Nat} {tg : Tg} {body : Ro → O Fl} {I : Nat → Ro → Prop} {Q : Fl → Ro → Prop} : ∀ {ds : List D} {k : Nat} {r : Ro}, I k r →
    (∀ i d r, ds[i]? = some d → I (k + i) r → ∃ r1, bindT pr tg d r = some r1 ∧ ∃ f r2, body r1 = .ok f r2 ∧ (((f = .nx ∨ f = .ct) ∧ I (k + i + 1) r2) ∨ (f = .bk ∧ Q .nx r2) ∨ ∃ a, f = .rt a ∧ Q f r2)) →
    (∀ r, I (k + ds.length) r → Q .nx r) → ∃ f r', forL pr tg body ds r = .ok f r' ∧ Q f r'
  | [], k, r, h0, _, fin => ⟨.nx, r, rfl, fin r h0⟩
  | d :: ds, k, r, h0, step, fin => by
    obtain ⟨r1, hb, f, r2, he, h⟩ := step 0 d r rfl h0
    have go : I (k + 1) r2 → ∃ f r', forL pr tg body ds r2 = .ok f r' ∧ Q f r' := fun h1 => by
      refine forL_run h1 (fun i d' r' e h => ?_) (fun r h => fin r ?_)
      · have := step (i + 1) d' r' (by simpa using e) (by rw [show k + (i + 1) = k + 1 + i by omega]; exact h)
        rw [show k + (i + 1) + 1 = k + 1 + i + 1 by omega] at this
        exact this
      · rw [List.length_cons, show k + (ds.length + 1) = k + 1 + ds.length by omega]
        exact h
    rcases h with ⟨h | h, h1⟩ | ⟨h, h1⟩ | ⟨a, h, h1⟩
    · subst h
      obtain ⟨f, r', e, q⟩ := go h1
      exact ⟨f, r', by simp only [forL, hb, he, e], q⟩
    · subst h
      obtain ⟨f, r', e, q⟩ := go h1
      exact ⟨f, r', by simp only [forL, hb, he, e], q⟩
    · subst h
      exact ⟨.nx, r2, by simp only [forL, hb, he], h1⟩
    · subst h
      exact ⟨.rt a, r2, by simp only [forL, hb, he], h1⟩
theorem forL0 {pr : List Nat} {tg : Tg} {body : Ro → O Fl} {ds : List D} {r : Ro} (I : Nat → Ro → Prop) (h0 : I 0 r) (Q : Fl → Ro → Prop)
    (step : ∀ i d r, ds[i]? = some d → I i r → ∃ r1, bindT pr tg d r = some r1 ∧ ∃ f r2, body r1 = .ok f r2 ∧ (((f = .nx ∨ f = .ct) ∧ I (i + 1) r2) ∨ (f = .bk ∧ Q .nx r2) ∨ ∃ a, f = .rt a ∧ Q f r2))
    (fin : ∀ r, I ds.length r → Q .nx r) : ∃ f r', forL pr tg body ds r = .ok f r' ∧ Q f r' :=
  forL_run (k := 0) h0 (fun i d r e h => by rw [Nat.zero_add] at h ⊢; exact step i d r e h) (fun r h => fin r (by rw [Nat.zero_add] at h; exact h))
/-- a loop that nothing leaves -/
theorem forN {pr : List Nat} {tg : Tg} {body : Ro → O Fl} {ds : List D} {r : Ro} (I : Nat → Ro → Prop) (h0 : I 0 r)
    (step : ∀ i d r, ds[i]? = some d → I i r → ∃ r1, bindT pr tg d r = some r1 ∧ ∃ r2, body r1 = .ok .nx r2 ∧ I (i + 1) r2) : ∃ r', forL pr tg body ds r = .ok .nx r' ∧ I ds.length r' := by
  obtain ⟨f, r', e, h, q⟩ := forL0 (pr := pr) (tg := tg) (body := body) (ds := ds) I h0 (fun f r => f = .nx ∧ I ds.length r) (fun i d r e h => by
    obtain ⟨r1, h1, r2, h2, h3⟩ := step i d r e h
    exact ⟨r1, h1, .nx, r2, h2, .inl ⟨.inl rfl, h3⟩⟩) (fun r h => ⟨rfl, h⟩)
  subst h
  exact ⟨r', e, q⟩
/-- a while that nothing leaves: m turns at most -/
theorem whileN {c : Ro → O Bool} {body : Ro → O Fl} {I : Nat → Ro → Prop} {Q : Ro → Prop} : ∀ {m fu : Nat} {r : Ro}, m < fu → I m r →
    (∀ m r, I m r → (∃ r1, c r = .ok false r1 ∧ Q r1) ∨ ∃ r1 r2 m', c r = .ok true r1 ∧ body r1 = .ok .nx r2 ∧ m' < m ∧ I m' r2) → ∃ r', whileL c body fu r = .ok .nx r' ∧ Q r'
  | m, 0, r, h, _, _ => absurd h (Nat.not_lt_zero m)
  | m, fu + 1, r, h, h0, step => by
    rcases step m r h0 with ⟨r1, h1, h2⟩ | ⟨r1, r2, m', h1, h2, h3, h4⟩
    · exact ⟨r1, by simp only [whileL, h1], h2⟩
    · obtain ⟨r', e, q⟩ := whileN (fu := fu) (by omega) h4 step
      exact ⟨r', by simp only [whileL, h1, h2, e], q⟩
/-- a comprehension whose turns leave the slots as they were -/
theorem compL_map {pr own : List Nat} {tg : Tg} {test : Ro → O Bool} {elt : Ro → O D} {f : D → D} {p : D → Bool} {r : Ro} : ∀ {ds acc : List D},
    (∀ d ∈ ds, ∃ r1 r2, bindT pr tg d r = some r1 ∧ test r1 = .ok (p d) r2 ∧ (p d = false → noLk own r2 = true ∧ wipeR own r2 = r) ∧ (p d = true → ∃ r3, elt r2 = .ok (f d) r3 ∧ noLk own r3 = true ∧ wipeR own r3 = r)) →
    acc.length + ds.length ≤ 100001 → compL pr own tg test elt ds acc r = .ok (acc ++ (ds.filter p).map f) r
  | [], acc, _, _ => by simp [compL]
  | d :: ds, acc, step, hl => by
    obtain ⟨r1, r2, h1, h2, h3, h4⟩ := step d List.mem_cons_self
    have ih := fun acc h => compL_map (ds := ds) (acc := acc) (fun d hd => step d (List.mem_cons_of_mem _ hd)) h
    rw [List.length_cons] at hl
    cases hp : p d with
    | false =>
      obtain ⟨g1, g2⟩ := h3 hp
      rw [hp] at h2
      rw [List.filter_cons_of_neg (by rw [hp]; decide)]
      simp only [compL, h1, h2, g1, g2, if_true]
      exact ih acc (by omega)
    | true =>
      obtain ⟨r3, g0, g1, g2⟩ := h4 hp
      rw [hp] at h2
      rw [List.filter_cons_of_pos hp]
      have hlen : lenOk acc.length = true := decide_eq_true (by omega)
      simp only [compL, h1, h2, g0, g1, g2, hlen, Bool.and_self, if_true]
      rw [ih (acc ++ [f d]) (by rw [List.length_append, List.length_singleton]; omega)]
      simp
/-! ### the evaluator's steps -/
section
variable {α β : Type} {cl : Cl} {pr : List Nat}
theorem k_bind (a : α) (r : Ro) (f : α → Ro → O β) : (O.ok a r).bind f = f a r := rfl
theorem k_bindX (c : String) (r : Ro) (f : α → Ro → O β) : (O.ex c r : O α).bind f = .ex c r := rfl
theorem k_lift (a : α) (r : Ro) : O.lift (some a) r = .ok a r := rfl
theorem k_stl1 (d : D) (r : Ro) : stl (.ok (.fz d) r) = .ok (.fz d) r := rfl
theorem k_stl2 (i : Nat) (r : Ro) : stl (.ok (.pk i) r) = .ok (.pk i) r := rfl
theorem k_stl3 (xs : List D) (r : Ro) : stl (.ok (.fr (.list xs)) r) = .ok (.fz (.list xs)) r := rfl
theorem k_cpo1 (d : D) (r : Ro) : cpo (.ok (.fz d) r) = .ok d r := rfl
theorem k_cpo2 (xs : List D) (r : Ro) : cpo (.ok (.fr (.list xs)) r) = .ok (.list xs) r := rfl
theorem k_cpo3 {i : Nat} {xs : List D} {r : Ro} (h : r[i]? = some (.ow (.list xs))) : cpo (.ok (.pk i) r) = .ok (.list xs) (r.set i (.fz (.list xs))) := by
  show (match cap r (.pk i) with | some (d, r) => O.ok d r | none => .no) = _
  unfold cap
  simp only [h]
theorem k_rd1 (r : Ro) (d : D) : rd r (.fz d) = some d := rfl
theorem k_rd2 (r : Ro) (d : D) : rd r (.fr d) = some d := rfl
theorem k_rd3 {r : Ro} {i : Nat} {d : D} (h : r[i]? = some (.ow d)) : rd r (.pk i) = some d := by unfold rd; simp only [h]
theorem k_rd4 {r : Ro} {i : Nat} {d : D} (h : r[i]? = some (.lk d)) : rd r (.pk i) = some d := by unfold rd; simp only [h]
theorem k_rd5 {r : Ro} {i : Nat} {d : D} (h : r[i]? = some (.fz d)) : rd r (.pk i) = some d := by unfold rd; simp only [h]
theorem k_rds0 (r : Ro) : rds r [] = some [] := rfl
theorem k_rds1 {r : Ro} {x : RV} {xs : List RV} {d : D} {ds : List D} (h : rd r x = some d) (h2 : rds r xs = some ds) : rds r (x :: xs) = some (d :: ds) := by
  show (match rd r x, rds r xs with | some d, some ds => some (d :: ds) | _, _ => none) = _
  rw [h, h2]
theorem k_bool (b : Bool) (r : Ro) : asBool (.fz (.bool b)) r = .ok b r := rfl
theorem k_int (i : Int) (r : Ro) : asInt (.fz (.int i)) r = .ok i r := rfl
theorem k_var1 {i : Nat} {r : Ro} {d : D} (h : r[i]? = some (.fz d)) : evE cl pr (.var i) r = .ok (.fz d) r := by unfold evE; simp only [h]
theorem k_var2 {i : Nat} {r : Ro} {d : D} (h : r[i]? = some (.ow d)) : evE cl pr (.var i) r = .ok (.pk i) r := by unfold evE; simp only [h]
theorem k_var3 {i : Nat} {r : Ro} {d : D} (h : r[i]? = some (.lk d)) : evE cl pr (.var i) r = .ok (.pk i) r := by unfold evE; simp only [h]
theorem k_lit (d : D) (r : Ro) : evE cl pr (.lit d) r = .ok (.fz d) r := rfl
theorem k_add (i j : Int) : binop .add (.int i) (.int j) = some (.fz (.int (i + j))) := rfl
theorem k_sub (i j : Int) : binop .sub (.int i) (.int j) = some (.fz (.int (i - j))) := rfl
theorem k_mul {i j : Int} (h : mulOk i j = true) : binop .mul (.int i) (.int j) = some (.fz (.int (i * j))) := if_pos h
theorem k_mod {i j : Int} (h : 0 < j) : binop .mod (.int i) (.int j) = some (.fz (.int (i % j))) := if_pos (decide_eq_true h)
theorem k_fdiv {i j : Int} (h : divOk j = true) : binop .fdiv (.int i) (.int j) = some (.fz (.int (i / j))) := if_pos h
theorem k_modN {i j : Int} (h : j < 0) : binop .mod (.int i) (.int j) = some (.fz (.int (i.fmod j))) := by
  show (if decide (0 < j) = true then _ else if decide (j ≠ 0) = true then _ else _) = _
  rw [if_neg (by rw [decide_eq_true_eq]; omega), if_pos (decide_eq_true (by omega))]
theorem k_fdivN {i j : Int} (h : j < 0) (h2 : j.natAbs.log2 < 9000) : binop .fdiv (.int i) (.int j) = some (.fz (.int (i.fdiv j))) := by
  show (if divOk j = true then _ else if divNOk j = true then _ else _) = _
  rw [if_neg (by unfold divOk; rw [decide_eq_true_eq]; omega), if_pos (show divNOk j = true from decide_eq_true ⟨by omega, h2⟩)]
theorem k_pow {i j : Int} (h : powOk i j = true) : binop .pow (.int i) (.int j) = some (.fz (.int (i ^ j.toNat))) := if_pos h
theorem k_catL {xs ys : List D} (h : lenOk (xs.length + ys.length) = true) : binop .add (.list xs) (.list ys) = some (.fr (.list (xs ++ ys))) := if_pos h
theorem k_catT {xs ys : List D} (h : lenOk (xs.length + ys.length) = true) : binop .add (.tuple xs) (.tuple ys) = some (.fz (.tuple (xs ++ ys))) := if_pos h
theorem k_lt (i j : Int) : cmpop .lt (.int i) (.int j) = some (decide (i < j)) := rfl
theorem k_le (i j : Int) : cmpop .le (.int i) (.int j) = some (decide (i ≤ j)) := rfl
theorem k_gt (i j : Int) : cmpop .gt (.int i) (.int j) = some (decide (j < i)) := rfl
theorem k_ge (i j : Int) : cmpop .ge (.int i) (.int j) = some (decide (j ≤ i)) := rfl
theorem k_eq {x y : D} (h : shapedD x = true) (h2 : shapedD y = true) : cmpop .eq x y = some (PyData.eqv x y) := by
  show (if shapedD x && shapedD y then _ else _) = _
  rw [h, h2]
  rfl
theorem k_ne {x y : D} (h : shapedD x = true) (h2 : shapedD y = true) : cmpop .ne x y = some (!PyData.eqv x y) := by
  show (if shapedD x && shapedD y then _ else _) = _
  rw [h, h2]
  rfl
theorem k_eqI (i j : Int) : cmpop .eq (.int i) (.int j) = some (decide (i = j)) := by
  rw [k_eq rfl rfl]
  by_cases h : i = j <;> simp [PyData.eqv, h]
theorem k_neI (i j : Int) : cmpop .ne (.int i) (.int j) = some (!decide (i = j)) := by
  rw [k_ne rfl rfl]
  by_cases h : i = j <;> simp [PyData.eqv, h]
theorem k_eqB (i j : Bool) : cmpop .eq (.bool i) (.bool j) = some (i == j) := by
  rw [k_eq rfl rfl]
  cases i <;> cases j <;> rfl
theorem k_idxL (xs : List D) (i : Int) : idxop (.list xs) (.int i) = L2.atI xs i := rfl
theorem k_idxT (xs : List D) (i : Int) : idxop (.tuple xs) (.int i) = L2.atI xs i := rfl
theorem k_at {xs : List D} {k : Nat} {d : D} (h : xs[k]? = some d) : L2.atI xs (k : Int) = some d := by
  have hl := (List.getElem?_eq_some_iff.mp h).1
  unfold L2.atI L2.ixN
  rw [if_pos (by omega), if_pos (by omega)]
  simpa using h
theorem k_at0 (x : D) (xs : List D) : L2.atI (x :: xs) 0 = some x := k_at (k := 0) rfl
theorem k_at1 (x y : D) (xs : List D) : L2.atI (x :: y :: xs) 1 = some y := k_at (k := 1) rfl
theorem k_ix {n : Nat} {k : Nat} (h : k < n) : L2.ixN n (k : Int) = some k := by
  unfold L2.ixN
  rw [if_pos (by omega), if_pos (by omega)]
  rfl
theorem k_lenL (xs : List D) : biop .len [.list xs] = some (.fz (.int xs.length)) := rfl
theorem k_lenT (xs : List D) : biop .len [.tuple xs] = some (.fz (.int xs.length)) := rfl
theorem k_abs (i : Int) : biop .abs [.int i] = some (.fz (.int (if i < 0 then -i else i))) := rfl
theorem k_min (i j : Int) : biop .min2 [.int i, .int j] = some (.fz (.int (if j < i then j else i))) := rfl
theorem k_max (i j : Int) : biop .max2 [.int i, .int j] = some (.fz (.int (if j > i then j else i))) := rfl
theorem k_toL (xs : List D) : biop .toList [.list xs] = some (.fr (.list xs)) := rfl
theorem k_toLT (xs : List D) : biop .toList [.tuple xs] = some (.fr (.list xs)) := rfl
theorem k_toT (xs : List D) : biop .toTuple [.list xs] = some (.fz (.tuple xs)) := rfl
theorem k_toTT (xs : List D) : biop .toTuple [.tuple xs] = some (.fz (.tuple xs)) := rfl
theorem k_toI (i : Int) : biop .toInt [.int i] = some (.fz (.int i)) := rfl
theorem k_toIB (b : Bool) : biop .toInt [.bool b] = some (.fz (.int (if b then 1 else 0))) := rfl
theorem intsD_map (ns : List Int) : intsD (ns.map PyData.int) = some ns := by
  induction ns with
  | nil => rfl
  | cons i r ih => simp only [List.map_cons, intsD, ih, Option.map_some]
theorem boolsD_map (ns : List Bool) : boolsD (ns.map PyData.bool) = some ns := by
  induction ns with
  | nil => rfl
  | cons i r ih => simp only [List.map_cons, boolsD, ih, Option.map_some]
theorem k_sum (ns : List Int) : biop .sum [.list (ns.map .int)] = some (.fz (.int ns.sum)) := by
  show (intsD (ns.map .int)).map _ = _
  rw [intsD_map]
  rfl
theorem k_all (bs : List Bool) : biop .all [.list (bs.map .bool)] = some (.fz (.bool (bs.all id))) := by
  show (boolsD (bs.map .bool)).map _ = _
  rw [boolsD_map]
  rfl
theorem k_any (bs : List Bool) : biop .any [.list (bs.map .bool)] = some (.fz (.bool (bs.any id))) := by
  show (boolsD (bs.map .bool)).map _ = _
  rw [boolsD_map]
  rfl
theorem k_rng1 {j : Int} (h : -100000 ≤ j ∧ j ≤ 100000) : itemsRng [.int j] = some (rngD 0 j.toNat) := if_pos (decide_eq_true h)
theorem k_rng2 {i j : Int} (h : -100000 ≤ i ∧ i ≤ 100000 ∧ j ≤ 100000 ∧ -100000 ≤ j) : itemsRng [.int i, .int j] = some (rngD i (j - i).toNat) := if_pos (decide_eq_true h)
theorem k_st1 (i : Nat) (d : D) (r : Ro) : stash pr i (.fz d) r = setSl pr i (.fz d) r := rfl
theorem k_st2 (i : Nat) (d : D) (r : Ro) : stash pr i (.fr d) r = setSl pr i (.ow d) r := rfl
theorem k_st3 {i j : Nat} {d : D} {r : Ro} (h : r[j]? = some (.ow d)) (hp : pr.contains j = false) : stash pr i (.pk j) r = setSl pr i (.ow d) (r.set j .un) := by
  unfold stash
  simp only [h, hp]
  rfl
theorem k_set1 {i : Nat} {s : Sl} {r : Ro} {d : D} (hp : pr.contains i = false) (h : r[i]? = some (.fz d)) : setSl pr i s r = some (r.set i s) := by
  unfold setSl
  rw [hp]
  simp only [h]
  rfl
theorem k_set2 {i : Nat} {s : Sl} {r : Ro} {d : D} (hp : pr.contains i = false) (h : r[i]? = some (.ow d)) : setSl pr i s r = some (r.set i s) := by
  unfold setSl
  rw [hp]
  simp only [h]
  rfl
theorem k_set3 {i : Nat} {s : Sl} {r : Ro} (hp : pr.contains i = false) (h : r[i]? = some .un) : setSl pr i s r = some (r.set i s) := by
  unfold setSl
  rw [hp]
  simp only [h]
  rfl
theorem k_ret1 (d : D) (r : Ro) : retv pr (.fz d) r = some (.fz d, r) := rfl
theorem k_ret2 (d : D) (r : Ro) : retv pr (.fr d) r = some (.ow d, r) := rfl
theorem k_ret3 {i : Nat} {d : D} {r : Ro} (h : r[i]? = some (.ow d)) (hp : pr.contains i = false) : retv pr (.pk i) r = some (.ow d, r.set i .un) := by
  unfold retv
  simp only [h, hp]
  rfl
theorem k_arg1 (d : D) (r : Ro) : argOf r (.fz d) = some (.fz d) := rfl
theorem k_arg2 (d : D) (r : Ro) : argOf r (.fr d) = some (.ow d) := rfl
theorem k_arg3 {i : Nat} {d : D} {r : Ro} (h : r[i]? = some (.ow d)) : argOf r (.pk i) = some (.ow d) := by unfold argOf; simp only [h]
theorem k_args0 (r : Ro) : argsOf r [] = some [] := rfl
theorem k_args1 {r : Ro} {x : RV} {xs : List RV} {a : Arg} {as : List Arg} (h : argOf r x = some a) (h2 : argsOf r xs = some as) : argsOf r (x :: xs) = some (a :: as) := by
  show (match argOf r x, argsOf r xs with | some a, some as => some (a :: as) | _, _ => none) = _
  rw [h, h2]
theorem k_pk0 (r : Ro) : pkOwn r [] = [] := rfl
theorem k_pk1 (r : Ro) (d : D) (xs : List RV) : pkOwn r (.fz d :: xs) = pkOwn r xs := rfl
theorem k_pk2 (r : Ro) (d : D) (xs : List RV) : pkOwn r (.fr d :: xs) = pkOwn r xs := rfl
theorem k_pk3 {r : Ro} {i : Nat} {d : D} {xs : List RV} (h : r[i]? = some (.ow d)) : pkOwn r (.pk i :: xs) = i :: pkOwn r xs := by
  show (match r[i]? with | some (.ow _) => i :: pkOwn r xs | _ => pkOwn r xs) = _
  simp only [h]
theorem k_bk0 (r0 r : Ro) (as : List Arg) : backArgs r0 [] as r = r := by cases as <;> rfl
theorem k_bk1 (r0 r : Ro) (d : D) (xs : List RV) (a : Arg) (as : List Arg) : backArgs r0 (.fz d :: xs) (a :: as) r = backArgs r0 xs as r := rfl
theorem k_bk2 (r0 r : Ro) (d : D) (xs : List RV) (a : Arg) (as : List Arg) : backArgs r0 (.fr d :: xs) (a :: as) r = backArgs r0 xs as r := rfl
theorem k_bk3 {r0 r : Ro} {i : Nat} {d : D} {xs : List RV} {a : Arg} {as : List Arg} (h : r0[i]? = some (.ow d)) : backArgs r0 (.pk i :: xs) (a :: as) r = backArgs r0 xs as (r.set i a.sl) := by
  show (match r0[i]? with | some (.ow _) => backArgs r0 xs as (r.set i a.sl) | _ => backArgs r0 xs as r) = _
  simp only [h]
theorem k_nd0 : nodupB [] = true := rfl
theorem k_nd1 (i : Nat) : nodupB [i] = true := rfl
theorem k_unl (l : List Nat) (f : Fl) (r : Ro) : unlockO l (.ok f r) = .ok f (unlockR l r) := rfl
theorem k_lk0 (r : Ro) : lockR [] r = r := rfl
theorem k_ul0 (r : Ro) : unlockR [] r = r := rfl
theorem k_lo1 (r : Ro) (d : D) : lockOf r (.fz d) = [] := rfl
theorem k_lo2 {r : Ro} {i : Nat} {d : D} (h : r[i]? = some (.ow d)) : lockOf r (.pk i) = [i] := by unfold lockOf; simp only [h]
theorem k_lk1 {r : Ro} {i : Nat} {d : D} (h : r[i]? = some (.ow d)) : lockR [i] r = r.set i (.lk d) := by unfold lockR; simp only [h]; rfl
theorem k_ul1 {r : Ro} {i : Nat} {d : D} (h : r[i]? = some (.lk d)) : unlockR [i] r = r.set i (.ow d) := by
  show (match (unlockR [] r)[i]? with | some (.lk d) => (unlockR [] r).set i (.ow d) | _ => unlockR [] r) = _
  simp only [k_ul0, h]
theorem k_sqL (xs : List D) : seqD (.list xs) = some xs := rfl
theorem k_sqT (xs : List D) : seqD (.tuple xs) = some xs := rfl
theorem k_app {xs : List D} {x : D} (h : lenOk xs.length = true) : muop .append (.list xs) [x] = some (.none, .list (xs ++ [x])) := if_pos h
theorem k_clear (xs : List D) : muop .clear (.list xs) [] = some (.none, .list []) := rfl
theorem k_popAt {xs : List D} {k : Nat} {x : D} (h : xs[k]? = some x) (h2 : xs.length < 100000) : muop .popAt (.list xs) [.int (k : Int)] = some (x, .list (xs.eraseIdx k)) := by
  have hl := (List.getElem?_eq_some_iff.mp h).1
  show (if _ then _ else _) = _
  rw [if_pos (decide_eq_true (by omega))]
  simp only [Int.toNat_natCast, h, Option.map_some]
theorem k_setD {xs : List D} {k : Nat} {y : D} (h : k < xs.length) : setD (.list xs) (.int (k : Int)) y = some (.list (xs.set k y)) := by
  show (L2.ixN xs.length k).map _ = _
  rw [k_ix h]
  rfl
theorem k_setD0 (x : D) (xs : List D) (y : D) : setD (.list (x :: xs)) (.int 0) y = some (.list (y :: xs)) := k_setD (k := 0) (by simp)
theorem k_setD1 (x z : D) (xs : List D) (y : D) : setD (.list (x :: z :: xs)) (.int 1) y = some (.list (x :: y :: xs)) := k_setD (k := 1) (by simp)
theorem k_isi {k : Kd} {d : D} : isDict d = false → True := fun _ => trivial
theorem p_rd (r : Ro) (i : Nat) : rd r (.pk i) = (match r[i]? with
    | some (.fz d) => some d
    | some (.ow d) => some d
    | some (.lk d) => some d
    | _ => none) := rfl
theorem p_cpo (r : Ro) (i : Nat) : cpo (.ok (.pk i) r) = (match cap r (.pk i) with
  | some (d, r) => .ok d r
  | none => .no) := rfl
theorem p_cap (r : Ro) (i : Nat) : cap r (.pk i) = (match r[i]? with
    | some (.fz d) => some (d, r)
    | some (.ow (.list xs)) => some (.list xs, r.set i (.fz (.list xs)))
    | _ => none) := rfl
theorem p_st (r : Ro) (i j : Nat) : stash pr i (.pk j) r = (match r[j]? with
    | some (.fz d) => setSl pr i (.fz d) r
    | some (.ow d) => if pr.contains j then (match d with
      | .list xs => setSl pr i (.fz (.list xs)) (r.set j (.fz (.list xs)))
      | _ => none) else setSl pr i (.ow d) (r.set j .un)
    | _ => none) := rfl
theorem p_ret (r : Ro) (i : Nat) : retv pr (.pk i) r = (match r[i]? with
    | some (.fz d) => some (.fz d, r)
    | some (.ow d) => if pr.contains i then (match d with
      | .list xs => some (.fz (.list xs), r.set i (.fz (.list xs)))
      | _ => none) else some (.ow d, r.set i .un)
    | _ => none) := rfl
theorem p_arg (r : Ro) (i : Nat) : argOf r (.pk i) = (match r[i]? with
    | some (.fz d) => some (.fz d)
    | some (.ow d) => some (.ow d)
    | _ => none) := rfl
theorem p_pk (r : Ro) (i : Nat) (xs : List RV) : pkOwn r (.pk i :: xs) = (match r[i]? with
    | some (.ow _) => i :: pkOwn r xs
    | _ => pkOwn r xs) := rfl
theorem p_bk (r0 r : Ro) (i : Nat) (xs : List RV) (a : Arg) (as : List Arg) : backArgs r0 (.pk i :: xs) (a :: as) r = (match r0[i]? with
    | some (.ow _) => backArgs r0 xs as (r.set i a.sl)
    | _ => backArgs r0 xs as r) := rfl
theorem p_lo (r : Ro) (i : Nat) : lockOf r (.pk i) = (match r[i]? with
    | some (.ow _) => [i]
    | _ => []) := rfl
theorem p_lk (r : Ro) (i : Nat) (l : List Nat) : lockR (i :: l) r = lockR l (match r[i]? with
    | some (.ow d) => r.set i (.lk d)
    | _ => r) := rfl
theorem p_ul (r : Ro) (i : Nat) (l : List Nat) : unlockR (i :: l) r = (match (unlockR l r)[i]? with
    | some (.lk d) => (unlockR l r).set i (.ow d)
    | _ => unlockR l r) := rfl
end
end Rk

/-! Rk, part S: the helpers that every law has. -/
namespace Rk
open PySem PySem.Spec PyProof.Rows L2
/-- _law_cell -/
def b_law_cell : Ss := (.cons (.ifs (.cmp .lt (.var 1) (.bi .len (.cons (.var 0) .nil))) (.cons (.ret (.idx (.var 0) (.var 1))) .nil) .nil) (.cons (.ret (.lit (.int 0))) .nil))
def c_law_cell : Cl := clNil
def f_law_cell : Fn := fnB c_law_cell 100000 2 2 b_law_cell
/-- _law_bag -/
def b_law_bag_1 : Ss := (.cons (.asg 3 (.bin .mod (.bin .add (.bin .add (.bin .pow (.var 3) (.lit (.int 5))) (.bin .mod (.idx (.var 0) (.var 4)) (.lit (.int 2147483629)))) (.bin .mul (.lit (.int 31)) (.var 4))) (.lit (.int 2147483647)))) .nil)
def b_law_bag : Ss := (.cons (.asg 2 (.bin .mod (.bi .abs (.cons (.call "_law_cell" (.cons (.var 0) (.cons (.var 1) .nil))) .nil)) (.bin .mul (.bin .mul (.bin .pow (.lit (.int 10)) (.lit (.int 60))) (.bin .pow (.lit (.int 10)) (.lit (.int 60)))) (.bin .pow (.lit (.int 10)) (.lit (.int 60)))))) (.cons (.ifs (.cmp .ge (.var 2) (.bin .pow (.lit (.int 10)) (.lit (.int 18)))) (.cons (.ret (.lst (.cons (.var 2) (.cons (.lit (.int 0)) .nil)))) .nil) .nil) (.cons (.asg 3 (.bin .mod (.bin .add (.bin .add (.var 2) (.bin .mul (.lit (.int 7919)) (.var 1))) (.lit (.int 17))) (.lit (.int 2147483647)))) (.cons (.fo (.nm 4) (.rng (.cons (.bi .min2 (.cons (.bi .len (.cons (.var 0) .nil)) (.cons (.lit (.int 9)) .nil))) .nil)) b_law_bag_1) (.cons (.ret (.lst (.cons (.var 3) (.cons (.lit (.int 1)) .nil)))) .nil)))))
def c_law_bag : Cl := (clCons "_law_cell" f_law_cell clNil)
def f_law_bag : Fn := fnB c_law_bag 100000 5 2 b_law_bag
/-- _law_take -/
def b_law_take : Ss := (.cons (.ifs (.cmp .eq (.idx (.var 0) (.lit (.int 1))) (.lit (.int 0))) (.cons (.asg 2 (.bin .mod (.idx (.var 0) (.lit (.int 0))) (.var 1))) (.cons (.setIx 0 (.lit (.int 0)) (.bin .fdiv (.idx (.var 0) (.lit (.int 0))) (.var 1))) (.cons (.ret (.var 2)) .nil))) .nil) (.cons (.setIx 0 (.lit (.int 0)) (.bin .mod (.bin .add (.bin .add (.bin .pow (.idx (.var 0) (.lit (.int 0))) (.lit (.int 5))) (.bin .mul (.lit (.int 48271)) (.idx (.var 0) (.lit (.int 1))))) (.lit (.int 11))) (.lit (.int 2147483647)))) (.cons (.setIx 0 (.lit (.int 1)) (.bin .add (.idx (.var 0) (.lit (.int 1))) (.lit (.int 1)))) (.cons (.ret (.bin .mod (.bin .fdiv (.bin .mod (.bin .mul (.idx (.var 0) (.lit (.int 0))) (.lit (.int 69621))) (.lit (.int 2147483629))) (.lit (.int 8))) (.var 1))) .nil))))
def c_law_take : Cl := clNil
def f_law_take : Fn := fnB c_law_take 100000 3 2 b_law_take
/-- _law_order -/
def w_law_order_1 : E := (.cmp .ne (.var 2) (.lst .nil))
def b_law_order_1 : Ss := (.cons (.ex (.mu .append 3 (.cons (.mu .popAt 2 (.cons (.call "_law_take" (.cons (.var 0) (.cons (.bi .len (.cons (.var 2) .nil)) .nil))) .nil)) .nil))) .nil)
def b_law_order : Ss := (.cons (.asg 2 (.lrng (.cons (.var 1) .nil))) (.cons (.asg 3 (.lst .nil)) (.cons (.whl w_law_order_1 b_law_order_1) (.cons (.ret (.var 3)) .nil))))
def c_law_order : Cl := (clCons "_law_take" f_law_take clNil)
def f_law_order : Fn := fnB c_law_order 100000 4 2 b_law_order
/-- _law_square -/
def b_law_square_1 : Ss := (.cons (.asg 7 (.bin .mod (.bin .add (.var 6) (.lit (.int 1))) (.var 1))) (.cons (.ifs (.cmp .eq (.idx (.var 5) (.var 6)) (.idx (.var 4) (.var 6))) (.cons (.swap 5 (.var 6) 5 (.var 7) (.tup (.cons (.idx (.var 5) (.var 7)) (.cons (.idx (.var 5) (.var 6)) .nil)))) .nil) .nil) .nil))
def e_law_square_1 : E := (.bin .mod (.bin .add (.var 8) (.var 3)) (.var 1))
def b_law_square : Ss := (.cons (.asg 2 (.call "_law_take" (.cons (.var 0) (.cons (.lit (.int 4)) .nil)))) (.cons (.asg 3 (.bin .add (.lit (.int 1)) (.call "_law_take" (.cons (.var 0) (.cons (.bin .sub (.var 1) (.lit (.int 1))) .nil))))) (.cons (.asg 4 (.call "_law_order" (.cons (.var 0) (.cons (.var 1) .nil)))) (.cons (.asg 5 (.call "_law_order" (.cons (.var 0) (.cons (.var 1) .nil)))) (.cons (.ifs (.cmp .eq (.var 2) (.lit (.int 1))) (.cons (.asg 4 (.lrng (.cons (.var 1) .nil))) (.cons (.asg 5 (.comp [8] e_law_square_1 (.nm 8) (.seq (.var 4)) .nil)) .nil)) .nil) (.cons (.fo (.nm 6) (.rng (.cons (.var 1) .nil)) b_law_square_1) (.cons (.ret (.tup (.cons (.bi .toTuple (.cons (.var 4) .nil)) (.cons (.bi .toTuple (.cons (.var 5) .nil)) .nil)))) .nil)))))))
def c_law_square : Cl := (clCons "_law_order" f_law_order (clCons "_law_take" f_law_take clNil))
def f_law_square : Fn := fnB c_law_square 100000 9 2 b_law_square

def intL (ns : List Int) : D := .list (ns.map .int)
theorem k_lenI (ns : List Int) : biop .len [intL ns] = some (.fz (.int ns.length)) := by
  unfold intL
  rw [k_lenL, List.length_map]
def cellZ (ns : List Int) (k : Nat) : Int := (ns[k]?).getD 0
theorem cell_eq (ns : List Int) (k : Nat) : f_law_cell [.fz (intL ns), .fz (.int k)] = some (.val (.fz (.int (cellZ ns k))), [.fz (intL ns), .fz (.int k)]) := by
  unfold f_law_cell b_law_cell c_law_cell
  by_cases h : k < ns.length
  · have h2 : (k : Int) < ns.length := by omega
    simp [p_rd, p_cpo, p_cap, p_st, p_ret, p_arg, p_pk, p_bk, p_lo, p_lk, p_ul, rds, argsOf, setSl, lenOk, exS, exSs, evE, evSs, evCs, evAs, evTs, evI, protOf, outsOf, runF, fnB, Arg.sl, setAt, clCons, clNil, kdIs, isDict, k_bind, k_bindX, k_lift, k_stl1, k_stl2, k_stl3, k_cpo1, k_cpo2, k_rd1, k_rd2, k_bool, k_int, k_lit, k_add, k_sub, k_mul, k_mod, k_fdiv, k_pow, k_catL, k_catT, k_lt, k_le, k_gt, k_ge, k_eqI, k_neI, k_eqB, k_eq, k_ne, k_idxL, k_idxT, k_at, k_at0, k_at1, k_ix, k_lenL, k_lenT, k_abs, k_min, k_max, k_toL, k_toLT, k_toT, k_toTT, k_toI, k_toIB, k_sum, k_all, k_any, k_rng1, k_rng2, k_st1, k_st2, k_ret1, k_ret2, k_arg1, k_arg2, k_pk0, k_pk1, k_pk2, k_bk0, k_bk1, k_bk2, k_nd0, k_nd1, k_unl, k_lk0, k_ul0, k_lo1, k_sqL, k_sqT, k_app, k_clear, k_popAt, k_setD, k_setD0, k_setD1, dupV, intL, h, h2, cellZ]
  · have h2 : ¬ (k : Int) < ns.length := by omega
    simp [p_rd, p_cpo, p_cap, p_st, p_ret, p_arg, p_pk, p_bk, p_lo, p_lk, p_ul, rds, argsOf, setSl, lenOk, exS, exSs, evE, evSs, evCs, evAs, evTs, evI, protOf, outsOf, runF, fnB, Arg.sl, setAt, clCons, clNil, kdIs, isDict, k_bind, k_bindX, k_lift, k_stl1, k_stl2, k_stl3, k_cpo1, k_cpo2, k_rd1, k_rd2, k_bool, k_int, k_lit, k_add, k_sub, k_mul, k_mod, k_fdiv, k_pow, k_catL, k_catT, k_lt, k_le, k_gt, k_ge, k_eqI, k_neI, k_eqB, k_eq, k_ne, k_idxL, k_idxT, k_at, k_at0, k_at1, k_ix, k_lenL, k_lenT, k_abs, k_min, k_max, k_toL, k_toLT, k_toT, k_toTT, k_toI, k_toIB, k_sum, k_all, k_any, k_rng1, k_rng2, k_st1, k_st2, k_ret1, k_ret2, k_arg1, k_arg2, k_pk0, k_pk1, k_pk2, k_bk0, k_bk1, k_bk2, k_nd0, k_nd1, k_unl, k_lk0, k_ul0, k_lo1, k_sqL, k_sqT, k_app, k_clear, k_popAt, k_setD, k_setD0, k_setD1, dupV, intL, h, h2, cellZ]
theorem rngD_at {lo : Int} {n i : Nat} {d : D} (h : (rngD lo n)[i]? = some d) : d = .int (lo + i) ∧ i < n := by
  have hl : i < n := by
    have := (List.getElem?_eq_some_iff.mp h).1
    unfold rngD at this
    simpa using this
  unfold rngD at h
  rw [List.getElem?_map, List.getElem?_range hl] at h
  cases h
  exact ⟨rfl, hl⟩
theorem log2_le {n k : Nat} (h : n < 2 ^ k) : n.log2 ≤ k := by
  by_cases z : n = 0
  · subst z
    exact Nat.zero_le _
  · exact Nat.le_of_lt ((Nat.log2_lt z).mpr h)
theorem mulOk_lt {i j : Int} (a b : Nat) (h1 : i.natAbs < 2 ^ a) (h2 : j.natAbs < 2 ^ b) (h3 : a + b ≤ 900000) : mulOk i j = true := decide_eq_true (by
  have := log2_le h1
  have := log2_le h2
  omega)
theorem divOk_lt {j : Int} (h : 0 < j) (h2 : j.natAbs < 2 ^ 64) : divOk j = true := decide_eq_true ⟨h, by
  have := log2_le h2
  omega⟩
theorem rngD_len (lo : Int) (n : Nat) : (rngD lo n).length = n := by unfold rngD; simp
/-- an empty slot, or one with a value -/
def Fzu (s : Sl) : Prop := s = .un ∨ ∃ d, s = .fz d
theorem bag_loop {ns : List Int} {n : Nat} {a c : D} {m : Int} (hn : n ≤ ns.length) (hn9 : n ≤ 9) (h1 : 0 ≤ m) (h2 : m < 2147483647) : ∃ m' s', forL [] (.nm 4) (exSs c_law_bag [] 100000 b_law_bag_1) (rngD 0 n) [.fz (intL ns), .fz a, .fz c, .fz (.int m), .un] = .ok .nx [.fz (intL ns), .fz a, .fz c, .fz (.int m'), s'] ∧ 0 ≤ m' ∧ m' < 2147483647 := by
  obtain ⟨r', e, m', s', rfl, g1, g2, _⟩ := forN (pr := []) (tg := .nm 4) (body := exSs c_law_bag [] 100000 b_law_bag_1) (ds := rngD 0 n) (r := [.fz (intL ns), .fz a, .fz c, .fz (.int m), .un])
    (fun _ r => ∃ m s, r = [.fz (intL ns), .fz a, .fz c, .fz (.int m), s] ∧ 0 ≤ m ∧ m < 2147483647 ∧ Fzu s) ⟨m, .un, rfl, h1, h2, .inl rfl⟩ (fun i d r hd ⟨m, s, hr, q1, q2, q3⟩ => by
      subst hr
      obtain ⟨rfl, hi⟩ := rngD_at hd
      refine ⟨[.fz (intL ns), .fz a, .fz c, .fz (.int m), .fz (.int (0 + i))], ?_, ?_⟩
      · rcases q3 with rfl | ⟨d, rfl⟩ <;> simp [bindT, setSl]
      · have hp : powOk m 5 = true := by
          unfold powOk
          have : m.natAbs < 2 ^ 64 := by omega
          simp [this]
        have hm : mulOk 31 i = true := mulOk_lt 5 5 (by decide) (by omega) (by decide)
        have hi2 : (i : Int) < ns.length := by omega
        have hi3 : i < ns.length := by omega
        refine ⟨_, ?_, (m ^ 5 + ns[i] % 2147483629 + 31 * i) % 2147483647, .fz (.int (0 + i)), rfl, Int.emod_nonneg _ (by decide), Int.emod_lt_of_pos _ (by decide), .inr ⟨_, rfl⟩⟩
        unfold b_law_bag_1
        simp [p_rd, p_cpo, p_cap, p_st, p_ret, p_arg, p_pk, p_bk, p_lo, p_lk, p_ul, rds, argsOf, setSl, lenOk, exS, exSs, evE, evSs, evCs, evAs, evTs, evI, protOf, outsOf, runF, fnB, Arg.sl, setAt, clCons, clNil, kdIs, isDict, k_bind, k_bindX, k_lift, k_stl1, k_stl2, k_stl3, k_cpo1, k_cpo2, k_rd1, k_rd2, k_bool, k_int, k_lit, k_add, k_sub, k_mul, k_mod, k_fdiv, k_pow, k_catL, k_catT, k_lt, k_le, k_gt, k_ge, k_eqI, k_neI, k_eqB, k_eq, k_ne, k_idxL, k_idxT, k_at, k_at0, k_at1, k_ix, k_lenL, k_lenT, k_abs, k_min, k_max, k_toL, k_toLT, k_toT, k_toTT, k_toI, k_toIB, k_sum, k_all, k_any, k_rng1, k_rng2, k_st1, k_st2, k_ret1, k_ret2, k_arg1, k_arg2, k_pk0, k_pk1, k_pk2, k_bk0, k_bk1, k_bk2, k_nd0, k_nd1, k_unl, k_lk0, k_ul0, k_lo1, k_sqL, k_sqT, k_app, k_clear, k_popAt, k_setD, k_setD0, k_setD1, dupV, intL, hp, hm, hi2, hi3])
  exact ⟨m', s', e, g1, g2⟩
/-- a bag: its number, its count -/
def Bg (k : Nat) (b : D) : Prop := ∃ m f : Int, b = .list [.int m, .int f] ∧ 0 ≤ m ∧ m < 10 ^ 180 ∧ 0 ≤ f ∧ f ≤ k ∧ (f ≠ 0 → m < 2147483647)
theorem bag_eq (ns : List Int) (k : Nat) (hk : k < 1000) : ∃ b, f_law_bag [.fz (intL ns), .fz (.int k)] = some (.val (.ow b), [.fz (intL ns), .fz (.int k)]) ∧ Bg 1 b := by
  have hc := cell_eq ns k
  generalize cellZ ns k = z at hc
  have e1 : powOk 10 60 = true := by decide
  have e2 : powOk 10 18 = true := by decide
  have e3 : mulOk (10 ^ 60) (10 ^ 60) = true := mulOk_lt 200 200 (by decide) (by decide) (by decide)
  have e4 : mulOk (10 ^ 60 * 10 ^ 60) (10 ^ 60) = true := mulOk_lt 400 200 (by decide) (by decide) (by decide)
  have e5 : mulOk 7919 k = true := mulOk_lt 13 10 (by decide) (by omega) (by decide)
  generalize hq : (if z < 0 then -z else z) % (10 ^ 60 * 10 ^ 60 * 10 ^ 60) = q
  have q0 : 0 ≤ q := by rw [← hq]; exact Int.emod_nonneg _ (by decide)
  have q1 : q < 10 ^ 180 := by
    rw [← hq, show (10 : Int) ^ 180 = 10 ^ 60 * 10 ^ 60 * 10 ^ 60 by decide]
    exact Int.emod_lt_of_pos _ (by decide)
  have e6 : (0 : Int) < 10 ^ 60 * 10 ^ 60 * 10 ^ 60 := by decide
  by_cases hbig : (10 : Int) ^ 18 ≤ q
  · refine ⟨.list [.int q, .int 0], ?_, q, 0, rfl, q0, q1, by decide, by decide, fun h => absurd rfl h⟩
    unfold f_law_bag b_law_bag c_law_bag
    simp [-Int.reducePow, p_rd, p_cpo, p_cap, p_st, p_ret, p_arg, p_pk, p_bk, p_lo, p_lk, p_ul, rds, argsOf, setSl, lenOk, exS, exSs, evE, evSs, evCs, evAs, evTs, evI, protOf, outsOf, runF, fnB, Arg.sl, setAt, clCons, clNil, kdIs, isDict, k_bind, k_bindX, k_lift, k_stl1, k_stl2, k_stl3, k_cpo1, k_cpo2, k_rd1, k_rd2, k_bool, k_int, k_lit, k_add, k_sub, k_mul, k_mod, k_fdiv, k_pow, k_catL, k_catT, k_lt, k_le, k_gt, k_ge, k_eqI, k_neI, k_eqB, k_eq, k_ne, k_idxL, k_idxT, k_at, k_at0, k_at1, k_ix, k_lenL, k_lenT, k_abs, k_min, k_max, k_toL, k_toLT, k_toT, k_toTT, k_toI, k_toIB, k_sum, k_all, k_any, k_rng1, k_rng2, k_st1, k_st2, k_ret1, k_ret2, k_arg1, k_arg2, k_pk0, k_pk1, k_pk2, k_bk0, k_bk1, k_bk2, k_nd0, k_nd1, k_unl, k_lk0, k_ul0, k_lo1, k_sqL, k_sqT, k_app, k_clear, k_popAt, k_setD, k_setD0, k_setD1, dupV, hc, e1, e2, e3, e4, e6, hq, hbig]
  · obtain ⟨m', s', e, g1, g2⟩ := bag_loop (ns := ns) (n := min ns.length 9) (a := .int k) (c := .int q) (m := (q + 7919 * k + 17) % 2147483647) (Nat.min_le_left _ _) (Nat.min_le_right _ _) (Int.emod_nonneg _ (by decide)) (Int.emod_lt_of_pos _ (by decide))
    refine ⟨.list [.int m', .int 1], ?_, m', 1, rfl, g1, Int.lt_trans g2 (by decide), by decide, by decide, fun _ => g2⟩
    unfold f_law_bag b_law_bag c_law_bag
    have hmin : (if (9 : Int) < ns.length then 9 else (ns.length : Int)) = ((min ns.length 9 : Nat) : Int) := by
      split <;> omega
    have hr : -100000 ≤ ((min ns.length 9 : Nat) : Int) ∧ ((min ns.length 9 : Nat) : Int) ≤ 100000 := by omega
    unfold c_law_bag at e
    simp [-Int.reducePow, p_rd, p_cpo, p_cap, p_st, p_ret, p_arg, p_pk, p_bk, p_lo, p_lk, p_ul, rds, argsOf, setSl, lenOk, exS, exSs, evE, evSs, evCs, evAs, evTs, evI, protOf, outsOf, runF, fnB, Arg.sl, setAt, clCons, clNil, kdIs, isDict, k_bind, k_bindX, k_lift, k_stl1, k_stl2, k_stl3, k_cpo1, k_cpo2, k_rd1, k_rd2, k_bool, k_int, k_lit, k_add, k_sub, k_mul, k_mod, k_fdiv, k_pow, k_catL, k_catT, k_lt, k_le, k_gt, k_ge, k_eqI, k_neI, k_eqB, k_eq, k_ne, k_idxL, k_idxT, k_at, k_at0, k_at1, k_ix, k_lenL, k_lenT, k_abs, k_min, k_max, k_toL, k_toLT, k_toT, k_toTT, k_toI, k_toIB, k_sum, k_all, k_any, k_rng1, k_rng2, k_st1, k_st2, k_ret1, k_ret2, k_arg1, k_arg2, k_pk0, k_pk1, k_pk2, k_bk0, k_bk1, k_bk2, k_nd0, k_nd1, k_unl, k_lk0, k_ul0, k_lo1, k_sqL, k_sqT, k_app, k_clear, k_popAt, k_setD, k_setD0, k_setD1, dupV, hmin, hr, e, hc, e1, e2, e3, e4, e5, e6, hq, hbig, k_lenI]

/-! ### data of ints alone -/
mutual
def isI : D → Bool
  | .int _ => true
  | .list xs => isIs xs
  | .tuple xs => isIs xs
  | _ => false
def isIs : List D → Bool
  | [] => true
  | x :: xs => isI x && isIs xs
end
mutual
theorem eqv_isI : ∀ (x y : D), isI x = true → isI y = true → (PyData.eqv x y = true ↔ x = y)
  | .int i, y, _, h => by cases y <;> first | (cases h; done) | simp [PyData.eqv]
  | .list xs, y, h, h2 => by
    cases y with
    | list ys => simp only [PyData.eqv, eqvs_isI xs ys h h2, PyData.list.injEq]
    | int _ => simp [PyData.eqv]
    | tuple _ => simp [PyData.eqv]
    | _ => cases h2
  | .tuple xs, y, h, h2 => by
    cases y with
    | tuple ys => simp only [PyData.eqv, eqvs_isI xs ys h h2, PyData.tuple.injEq]
    | int _ => simp [PyData.eqv]
    | list _ => simp [PyData.eqv]
    | _ => cases h2
  | .none, _, h, _ => by cases h
  | .bool _, _, h, _ => by cases h
  | .str _, _, h, _ => by cases h
  | .dict _, _, h, _ => by cases h
theorem eqvs_isI : ∀ (xs ys : List D), isIs xs = true → isIs ys = true → (PyData.eqvAll xs ys = true ↔ xs = ys)
  | [], [], _, _ => by simp [PyData.eqvAll]
  | [], _ :: _, _, _ => by simp [PyData.eqvAll]
  | _ :: _, [], _, _ => by simp [PyData.eqvAll]
  | x :: xs, y :: ys, h, h2 => by
    have h := (Bool.and_eq_true _ _).mp h
    have h2 := (Bool.and_eq_true _ _).mp h2
    simp only [PyData.eqvAll, Bool.and_eq_true, eqv_isI x y h.1 h2.1, eqvs_isI xs ys h.2 h2.2, List.cons.injEq]
end
theorem isIs_iff {xs : List D} : isIs xs = true ↔ ∀ x ∈ xs, isI x = true := by
  induction xs with
  | nil => simp [isIs]
  | cons x xs ih => simp [isIs, ih]
theorem isIs_ints (ns : List Int) : isIs (ns.map .int) = true := isIs_iff.mpr fun x hx => by
  obtain ⟨i, _, rfl⟩ := List.mem_map.mp hx
  rfl
theorem eqv_dec {x y : D} [Decidable (x = y)] (h : isI x = true) (h2 : isI y = true) : PyData.eqv x y = decide (x = y) := by
  have := eqv_isI x y h h2
  by_cases e : x = y
  · rw [this.mpr e, decide_eq_true e]
  · cases q : PyData.eqv x y with
    | true => exact absurd (this.mp q) e
    | false => rw [decide_eq_false e]
/-- what has its shape, k deep at most -/
def Shp (k : Nat) (d : D) : Prop := d.canLay0 = true ∧ d.depth ≤ k
theorem Shp.sh {k : Nat} {d : D} (h : Shp k d) (hk : k ≤ 64) : shapedD d = true := (Bool.and_eq_true _ _).mpr ⟨h.1, decide_eq_true (Nat.le_trans h.2 hk)⟩
theorem Shp.mono {k j : Nat} {d : D} (h : Shp k d) (e : k ≤ j) : Shp j d := ⟨h.1, Nat.le_trans h.2 e⟩
theorem shp_int (i : Int) : Shp 0 (.int i) := ⟨rfl, Nat.zero_le _⟩
theorem shp_all {k : Nat} : ∀ {xs : List D}, (∀ x ∈ xs, Shp k x) → PyData.canLayAll0 xs = true ∧ PyData.depthAll xs ≤ k
  | [], _ => ⟨rfl, Nat.zero_le _⟩
  | x :: xs, h => by
    obtain ⟨h1, h2⟩ := shp_all fun y hy => h y (List.mem_cons_of_mem _ hy)
    obtain ⟨g1, g2⟩ := h x List.mem_cons_self
    exact ⟨by simp [PyData.canLayAll0, g1, h1], by
      show max x.depth (PyData.depthAll xs) ≤ k
      omega⟩
theorem shp_list {k : Nat} {xs : List D} (h : ∀ x ∈ xs, Shp k x) : Shp (k + 1) (.list xs) := ⟨by simp [PyData.canLay0, (shp_all h).1], Nat.succ_le_succ (shp_all h).2⟩
theorem shp_tuple {k : Nat} {xs : List D} (h : ∀ x ∈ xs, Shp k x) : Shp (k + 1) (.tuple xs) := ⟨by simp [PyData.canLay0, (shp_all h).1], Nat.succ_le_succ (shp_all h).2⟩
theorem shp_ints (ns : List Int) : shapedD (.list (ns.map .int)) = true := (shp_list (k := 0) fun x hx => by
  obtain ⟨i, _, rfl⟩ := List.mem_map.mp hx
  exact shp_int i).sh (by decide)
theorem shp_intT (ns : List Int) : shapedD (.tuple (ns.map .int)) = true := (shp_tuple (k := 0) fun x hx => by
  obtain ⟨i, _, rfl⟩ := List.mem_map.mp hx
  exact shp_int i).sh (by decide)
/-! ### what is taken of a bag -/
theorem take_eq {k : Nat} {b : D} {many : Int} (hb : Bg k b) (hk : k ≤ 1000000) (h0 : 0 < many) (h1 : many ≤ 1000000000000) :
    ∃ d b', f_law_take [.ow b, .fz (.int many)] = some (.val (.fz (.int d)), [.ow b', .fz (.int many)]) ∧ 0 ≤ d ∧ d < many ∧ Bg (k + 1) b' := by
  obtain ⟨m, f, rfl, m0, m1, f0, f1, f2⟩ := hb
  have hd : divOk many = true := divOk_lt h0 (by omega)
  by_cases hf : f = 0
  · subst hf
    refine ⟨m % many, .list [.int (m / many), .int 0], ?_, Int.emod_nonneg _ (by omega), Int.emod_lt_of_pos _ h0, m / many, 0, rfl, Int.ediv_nonneg m0 (by omega), Int.lt_of_le_of_lt (Int.ediv_le_self _ m0) m1, by decide, by omega, fun h => absurd rfl h⟩
    unfold f_law_take b_law_take c_law_take
    simp [p_rd, p_cpo, p_cap, p_st, p_ret, p_arg, p_pk, p_bk, p_lo, p_lk, p_ul, rds, argsOf, setSl, lenOk, exS, exSs, evE, evSs, evCs, evAs, evTs, evI, protOf, outsOf, runF, fnB, Arg.sl, setAt, clCons, clNil, kdIs, isDict, k_bind, k_bindX, k_lift, k_stl1, k_stl2, k_stl3, k_cpo1, k_cpo2, k_rd1, k_rd2, k_bool, k_int, k_lit, k_add, k_sub, k_mul, k_mod, k_fdiv, k_pow, k_catL, k_catT, k_lt, k_le, k_gt, k_ge, k_eqI, k_neI, k_eqB, k_eq, k_ne, k_idxL, k_idxT, k_at, k_at0, k_at1, k_ix, k_lenL, k_lenT, k_abs, k_min, k_max, k_toL, k_toLT, k_toT, k_toTT, k_toI, k_toIB, k_sum, k_all, k_any, k_rng1, k_rng2, k_st1, k_st2, k_ret1, k_ret2, k_arg1, k_arg2, k_pk0, k_pk1, k_pk2, k_bk0, k_bk1, k_bk2, k_nd0, k_nd1, k_unl, k_lk0, k_ul0, k_lo1, k_sqL, k_sqT, k_app, k_clear, k_popAt, k_setD, k_setD0, k_setD1, dupV, hd, h0]
  · have m2 := f2 hf
    have e1 : powOk m 5 = true := by
      unfold powOk
      have : m.natAbs < 2 ^ 64 := by omega
      simp [this]
    have e2 : mulOk 48271 f = true := mulOk_lt 16 20 (by decide) (by omega) (by decide)
    generalize hm : (m ^ 5 + 48271 * f + 11) % 2147483647 = m'
    have g0 : 0 ≤ m' := by rw [← hm]; exact Int.emod_nonneg _ (by decide)
    have g1 : m' < 2147483647 := by rw [← hm]; exact Int.emod_lt_of_pos _ (by decide)
    have e3 : mulOk m' 69621 = true := mulOk_lt 31 17 (by omega) (by decide) (by decide)
    have e4 : divOk 8 = true := divOk_lt (by decide) (by decide)
    refine ⟨m' * 69621 % 2147483629 / 8 % many, .list [.int m', .int (f + 1)], ?_, Int.emod_nonneg _ (by omega), Int.emod_lt_of_pos _ h0, m', f + 1, rfl, g0, Int.lt_trans g1 (by decide), by omega, by omega, fun _ => g1⟩
    unfold f_law_take b_law_take c_law_take
    simp [p_rd, p_cpo, p_cap, p_st, p_ret, p_arg, p_pk, p_bk, p_lo, p_lk, p_ul, rds, argsOf, setSl, lenOk, exS, exSs, evE, evSs, evCs, evAs, evTs, evI, protOf, outsOf, runF, fnB, Arg.sl, setAt, clCons, clNil, kdIs, isDict, k_bind, k_bindX, k_lift, k_stl1, k_stl2, k_stl3, k_cpo1, k_cpo2, k_rd1, k_rd2, k_bool, k_int, k_lit, k_add, k_sub, k_mul, k_mod, k_fdiv, k_pow, k_catL, k_catT, k_lt, k_le, k_gt, k_ge, k_eqI, k_neI, k_eqB, k_eq, k_ne, k_idxL, k_idxT, k_at, k_at0, k_at1, k_ix, k_lenL, k_lenT, k_abs, k_min, k_max, k_toL, k_toLT, k_toT, k_toTT, k_toI, k_toIB, k_sum, k_all, k_any, k_rng1, k_rng2, k_st1, k_st2, k_ret1, k_ret2, k_arg1, k_arg2, k_pk0, k_pk1, k_pk2, k_bk0, k_bk1, k_bk2, k_nd0, k_nd1, k_unl, k_lk0, k_ul0, k_lo1, k_sqL, k_sqT, k_app, k_clear, k_popAt, k_setD, k_setD0, k_setD1, dupV, hd, h0, hf, e1, e2, e3, e4, hm]
/-! ### an order -/
def natD (p : List Nat) : List D := p.map fun i => PyData.int ((i : Nat) : Int)
theorem natD_len (p : List Nat) : (natD p).length = p.length := by unfold natD; simp
theorem natD_at {p : List Nat} {i : Nat} (h : i < p.length) : (natD p)[i]? = some (.int (p[i] : Nat)) := by unfold natD; simp [h]
theorem natD_isI (p : List Nat) : isIs (natD p) = true := isIs_iff.mpr fun x hx => by
  obtain ⟨i, _, rfl⟩ := List.mem_map.mp hx
  rfl
theorem natD_shp (p : List Nat) : ∀ x ∈ natD p, Shp 0 x := fun x hx => by
  obtain ⟨i, _, rfl⟩ := List.mem_map.mp hx
  exact shp_int _
theorem natD_sh (p : List Nat) : shapedD (.list (natD p)) = true := (shp_list (natD_shp p)).sh (by decide)
theorem natD_shT (p : List Nat) : shapedD (.tuple (natD p)) = true := (shp_tuple (natD_shp p)).sh (by decide)
theorem nil_sh : shapedD (.list []) = true := (shp_list (k := 0) (xs := []) (fun x hx => absurd hx (by simp))).sh (by decide)
theorem perm_erase : ∀ {l : List Nat} {i : Nat} (h : i < l.length), (l[i] :: l.eraseIdx i).Perm l
  | x :: l, 0, h => List.Perm.refl _
  | x :: l, i + 1, h => by
    have ih := perm_erase (l := l) (i := i) (by simpa using h)
    simp only [List.getElem_cons_succ, List.eraseIdx_cons_succ]
    exact (List.Perm.swap _ _ _).trans (ih.cons x)
theorem eqv_iffD {x y : D} {p : Prop} [Decidable p] (h : isI x = true) (h2 : isI y = true) (hp : x = y ↔ p) : PyData.eqv x y = decide p := by
  have := eqv_isI x y h h2
  by_cases e : p
  · rw [this.mpr (hp.mpr e), decide_eq_true e]
  · cases q : PyData.eqv x y with
    | true => exact absurd (hp.mp (this.mp q)) e
    | false => rw [decide_eq_false e]
theorem natD_inj {p q : List Nat} : natD p = natD q ↔ p = q := by
  constructor
  · intro h
    have := congrArg (List.map fun d : D => match d with | .int i => i.toNat | _ => 0) h
    simpa [natD, Function.comp_def] using this
  · intro h
    rw [h]
theorem natD_nil (p : List Nat) : PyData.eqv (.list (natD p)) (.list []) = decide (p = []) :=
  eqv_iffD (natD_isI p) rfl (by cases p <;> simp [natD])
theorem rngD_nat (n : Nat) : rngD 0 n = natD (List.range n) := by
  unfold rngD natD
  simp
theorem natD_erase : ∀ (p : List Nat) (j : Nat), (natD p).eraseIdx j = natD (p.eraseIdx j)
  | [], _ => rfl
  | x :: p, 0 => rfl
  | x :: p, j + 1 => by
    have := natD_erase p j
    simp only [natD, List.map_cons, List.eraseIdx_cons_succ] at this ⊢
    rw [this]
theorem natD_pop {p : List Nat} {j : Nat} (h : j < p.length) (h2 : (natD p).length < 100000) : muop .popAt (.list (natD p)) [.int (j : Int)] = some (.int (p[j] : Nat), .list (natD (p.eraseIdx j))) := by
  rw [k_popAt (natD_at h) h2, natD_erase]
theorem natD_app {p : List Nat} (x : Nat) (h : (natD p).length ≤ 100000) : muop .append (.list (natD p)) [.int (x : Int)] = some (.none, .list (natD (p ++ [x]))) := by
  rw [k_app (decide_eq_true h)]
  simp [natD]
theorem order_eq {k n : Nat} {b : D} (hb : Bg k b) (hk : k + n ≤ 1000000) (hn : n ≤ 1000) :
    ∃ (p : List Nat) (b' : D), f_law_order [.ow b, .fz (.int n)] = some (.val (.ow (.list (natD p))), [.ow b', .fz (.int n)]) ∧ p.Perm (List.range n) ∧ Bg (k + n) b' := by
  obtain ⟨r', e, found, b', rfl, hp, hB⟩ := whileN (c := fun r => (evE c_law_order [0] w_law_order_1 r).bind fun x r => asBool x r) (body := exSs c_law_order [0] 100000 b_law_order_1) (m := n) (fu := 100000)
    (r := [.ow b, .fz (.int n), .ow (.list (natD (List.range n))), .ow (.list [])])
    (I := fun m r => ∃ (left found : List Nat) (b' : D), r = [.ow b', .fz (.int n), .ow (.list (natD left)), .ow (.list (natD found))] ∧ left.length = m ∧ (found ++ left).Perm (List.range n) ∧ Bg (k + found.length) b')
    (Q := fun r => ∃ (found : List Nat) (b' : D), r = [.ow b', .fz (.int n), .ow (.list []), .ow (.list (natD found))] ∧ found.Perm (List.range n) ∧ Bg (k + n) b')
    (by omega) ⟨List.range n, [], b, rfl, by simp, List.Perm.refl _, hb⟩ (fun m r ⟨left, found, b', hr, hm, hp, hB⟩ => by
      subst hr
      have hlen : found.length + left.length = n := by
        have := hp.length_eq
        rw [List.length_append, List.length_range] at this
        exact this
      by_cases hl : left = []
      · subst hl
        refine .inl ⟨_, ?_, found, b', rfl, by simpa using hp, by
          rw [List.length_nil, Nat.add_zero] at hlen
          rw [← hlen]
          exact hB⟩
        unfold w_law_order_1
        simp [p_rd, p_cpo, p_cap, p_st, p_ret, p_arg, p_pk, p_bk, p_lo, p_lk, p_ul, rds, argsOf, setSl, lenOk, exS, exSs, evE, evSs, evCs, evAs, evTs, evI, protOf, outsOf, runF, fnB, Arg.sl, setAt, clCons, clNil, kdIs, isDict, k_bind, k_bindX, k_lift, k_stl1, k_stl2, k_stl3, k_cpo1, k_cpo2, k_rd1, k_rd2, k_bool, k_int, k_lit, k_add, k_sub, k_mul, k_mod, k_fdiv, k_pow, k_catL, k_catT, k_lt, k_le, k_gt, k_ge, k_eqI, k_neI, k_eqB, k_eq, k_ne, k_idxL, k_idxT, k_at, k_at0, k_at1, k_ix, k_lenL, k_lenT, k_abs, k_min, k_max, k_toL, k_toLT, k_toT, k_toTT, k_toI, k_toIB, k_sum, k_all, k_any, k_rng1, k_rng2, k_st1, k_st2, k_ret1, k_ret2, k_arg1, k_arg2, k_pk0, k_pk1, k_pk2, k_bk0, k_bk1, k_bk2, k_nd0, k_nd1, k_unl, k_lk0, k_ul0, k_lo1, k_sqL, k_sqT, k_app, k_clear, k_popAt, k_setD, k_setD0, k_setD1, dupV, natD_sh, nil_sh, natD_nil]
        rfl
      · right
        have h0 : 0 < left.length := List.length_pos_iff.mpr hl
        obtain ⟨d, b1, e1, d0, d1, hB1⟩ := take_eq (many := (left.length : Int)) hB (by omega) (by omega) (by omega)
        obtain ⟨j, rfl⟩ : ∃ j : Nat, d = j := ⟨d.toNat, by omega⟩
        have hj : j < left.length := by omega
        refine ⟨[.ow b', .fz (.int n), .ow (.list (natD left)), .ow (.list (natD found))], [.ow b1, .fz (.int n), .ow (.list (natD (left.eraseIdx j))), .ow (.list (natD (found ++ [left[j]])))], left.length - 1, ?_, ?_, by omega, left.eraseIdx j, found ++ [left[j]], b1, rfl, ?_, ?_, ?_⟩
        · unfold w_law_order_1
          simp [p_rd, p_cpo, p_cap, p_st, p_ret, p_arg, p_pk, p_bk, p_lo, p_lk, p_ul, rds, argsOf, setSl, lenOk, exS, exSs, evE, evSs, evCs, evAs, evTs, evI, protOf, outsOf, runF, fnB, Arg.sl, setAt, clCons, clNil, kdIs, isDict, k_bind, k_bindX, k_lift, k_stl1, k_stl2, k_stl3, k_cpo1, k_cpo2, k_rd1, k_rd2, k_bool, k_int, k_lit, k_add, k_sub, k_mul, k_mod, k_fdiv, k_pow, k_catL, k_catT, k_lt, k_le, k_gt, k_ge, k_eqI, k_neI, k_eqB, k_eq, k_ne, k_idxL, k_idxT, k_at, k_at0, k_at1, k_ix, k_lenL, k_lenT, k_abs, k_min, k_max, k_toL, k_toLT, k_toT, k_toTT, k_toI, k_toIB, k_sum, k_all, k_any, k_rng1, k_rng2, k_st1, k_st2, k_ret1, k_ret2, k_arg1, k_arg2, k_pk0, k_pk1, k_pk2, k_bk0, k_bk1, k_bk2, k_nd0, k_nd1, k_unl, k_lk0, k_ul0, k_lo1, k_sqL, k_sqT, k_app, k_clear, k_popAt, k_setD, k_setD0, k_setD1, dupV, natD_sh, nil_sh, natD_nil, hl]
        · have hat := natD_at hj
          have l1 : (natD left).length < 100000 := by rw [natD_len]; omega
          have l2 : (natD found).length ≤ 100000 := by rw [natD_len]; omega
          unfold b_law_order_1 c_law_order
          have hpop := natD_pop hj l1
          have happ := fun x => natD_app (p := found) x l2
          simp [p_rd, p_cpo, p_cap, p_st, p_ret, p_arg, p_pk, p_bk, p_lo, p_lk, p_ul, rds, argsOf, setSl, lenOk, exS, exSs, evE, evSs, evCs, evAs, evTs, evI, protOf, outsOf, runF, fnB, Arg.sl, setAt, clCons, clNil, kdIs, isDict, k_bind, k_bindX, k_lift, k_stl1, k_stl2, k_stl3, k_cpo1, k_cpo2, k_rd1, k_rd2, k_bool, k_int, k_lit, k_add, k_sub, k_mul, k_mod, k_fdiv, k_pow, k_catL, k_catT, k_lt, k_le, k_gt, k_ge, k_eqI, k_neI, k_eqB, k_eq, k_ne, k_idxL, k_idxT, k_at, k_at0, k_at1, k_ix, k_lenL, k_lenT, k_abs, k_min, k_max, k_toL, k_toLT, k_toT, k_toTT, k_toI, k_toIB, k_sum, k_all, k_any, k_rng1, k_rng2, k_st1, k_st2, k_ret1, k_ret2, k_arg1, k_arg2, k_pk0, k_pk1, k_pk2, k_bk0, k_bk1, k_bk2, k_nd0, k_nd1, k_unl, k_lk0, k_ul0, k_lo1, k_sqL, k_sqT, k_app, k_clear, k_popAt, k_setD, k_setD0, k_setD1, dupV, natD_len, e1, hpop, happ]
        · rw [List.length_eraseIdx_of_lt hj]
        · refine List.Perm.trans ?_ hp
          rw [List.append_assoc]
          exact List.Perm.append_left _ (perm_erase hj)
        · rw [List.length_append, List.length_singleton, ← Nat.add_assoc]
          exact hB1)
  refine ⟨found, b', ?_, hp, hB⟩
  have hr : -100000 ≤ (n : Int) ∧ (n : Int) ≤ 100000 := by omega
  unfold f_law_order b_law_order
  simp [p_rd, p_cpo, p_cap, p_st, p_ret, p_arg, p_pk, p_bk, p_lo, p_lk, p_ul, rds, argsOf, setSl, lenOk, exS, exSs, evE, evSs, evCs, evAs, evTs, evI, protOf, outsOf, runF, fnB, Arg.sl, setAt, clCons, clNil, kdIs, isDict, k_bind, k_bindX, k_lift, k_stl1, k_stl2, k_stl3, k_cpo1, k_cpo2, k_rd1, k_rd2, k_bool, k_int, k_lit, k_add, k_sub, k_mul, k_mod, k_fdiv, k_pow, k_catL, k_catT, k_lt, k_le, k_gt, k_ge, k_eqI, k_neI, k_eqB, k_eq, k_ne, k_idxL, k_idxT, k_at, k_at0, k_at1, k_ix, k_lenL, k_lenT, k_abs, k_min, k_max, k_toL, k_toLT, k_toT, k_toTT, k_toI, k_toIB, k_sum, k_all, k_any, k_rng1, k_rng2, k_st1, k_st2, k_ret1, k_ret2, k_arg1, k_arg2, k_pk0, k_pk1, k_pk2, k_bk0, k_bk1, k_bk2, k_nd0, k_nd1, k_unl, k_lk0, k_ul0, k_lo1, k_sqL, k_sqT, k_app, k_clear, k_popAt, k_setD, k_setD0, k_setD1, dupV, hr, rngD_nat, e]
/-! ### a square -/
theorem natD_atI {p : List Nat} {i : Nat} (h : i < p.length) : L2.atI (natD p) (i : Int) = some (.int (p[i] : Nat)) := k_at (natD_at h)
theorem natD_setD {p : List Nat} {i : Nat} (x : Nat) (h : i < p.length) : setD (.list (natD p)) (.int (i : Int)) (.int (x : Int)) = some (.list (natD (p.set i x))) := by
  rw [k_setD (by rw [natD_len]; exact h)]
  congr 2
  unfold natD
  rw [List.map_set]
theorem md_cast (a n : Nat) : ((a : Int)) % (n : Int) = ((a % n : Nat) : Int) := (Int.natCast_emod a n).symm
theorem md1_cast (a n : Nat) : ((a : Int) + 1) % (n : Int) = (((a + 1) % n : Nat) : Int) := by
  rw [← md_cast]
  rfl
def InR (n : Nat) (p : List Nat) : Prop := p.length = n ∧ ∀ x ∈ p, x < n
theorem InR.set {n : Nat} {p : List Nat} (h : InR n p) (i : Nat) {x : Nat} (hx : x < n) : InR n (p.set i x) := ⟨by rw [List.length_set]; exact h.1, fun y hy => by
  rcases List.mem_or_eq_of_mem_set hy with z | z
  · exact h.2 y z
  · rw [z]; exact hx⟩
theorem InR.at {n : Nat} {p : List Nat} (h : InR n p) {i : Nat} (hi : i < p.length) : p[i] < n := h.2 _ (List.getElem_mem hi)
theorem InR.perm {n : Nat} {p : List Nat} (h : p.Perm (List.range n)) : InR n p := ⟨by rw [h.length_eq, List.length_range], fun x hx => by simpa using h.mem_iff.mp hx⟩
theorem square_loop {n : Nat} {b : D} {x y : D} {R C : List Nat} (hn : 0 < n) (hR : InR n R) (hC : InR n C) :
    ∃ C' s6 s7, forL [0] (.nm 6) (exSs c_law_square [0] 100000 b_law_square_1) (natD (List.range n)) [.ow b, .fz (.int n), .fz x, .fz y, .ow (.list (natD R)), .ow (.list (natD C)), .un, .un, .un] = .ok .nx [.ow b, .fz (.int n), .fz x, .fz y, .ow (.list (natD R)), .ow (.list (natD C')), s6, s7, .un] ∧ InR n C' := by
  obtain ⟨r', e, C', s6, s7, rfl, h, _⟩ := forN (pr := [0]) (tg := .nm 6) (body := exSs c_law_square [0] 100000 b_law_square_1) (ds := natD (List.range n)) (r := [.ow b, .fz (.int n), .fz x, .fz y, .ow (.list (natD R)), .ow (.list (natD C)), .un, .un, .un])
    (fun _ r => ∃ C' s6 s7, r = [.ow b, .fz (.int n), .fz x, .fz y, .ow (.list (natD R)), .ow (.list (natD C')), s6, s7, .un] ∧ InR n C' ∧ Fzu s6 ∧ Fzu s7) ⟨C, .un, .un, rfl, hC, .inl rfl, .inl rfl⟩ (fun i d r hd ⟨C', s6, s7, hr, h, q6, q7⟩ => by
      subst hr
      have hi : i < n := by
        have := (List.getElem?_eq_some_iff.mp hd).1
        rw [natD_len, List.length_range] at this
        exact this
      rw [natD_at (by rw [List.length_range]; exact hi), List.getElem_range] at hd
      cases hd
      have hiC : i < C'.length := by rw [h.1]; exact hi
      have hiR : i < R.length := by rw [hR.1]; exact hi
      have hm := md1_cast i n
      have hj : (i + 1) % n < C'.length := by rw [h.1]; exact Nat.mod_lt _ hn
      generalize (i + 1) % n = j at hm hj
      refine ⟨[.ow b, .fz (.int n), .fz x, .fz y, .ow (.list (natD R)), .ow (.list (natD C')), .fz (.int i), s7, .un], ?_, ?_⟩
      · rcases q6 with rfl | ⟨d, rfl⟩ <;> simp [bindT, setSl]
      · have hn0 : (0 : Int) < n := by omega
        have a1 := natD_atI hiC
        have a2 := natD_atI hiR
        have a3 := natD_atI hj
        have w1 := natD_setD (p := C') C'[j] hiC
        have w2 := natD_setD (p := C'.set i C'[j]) C'[i] (i := j) (by rw [List.length_set]; exact hj)
        have r1 := h.at hj
        have r2 := h.at hiC
        generalize C'[j] = cj at a3 w1 w2 r1
        generalize C'[i] = ci at a1 w2 r2
        generalize R[i] = ri at a2
        by_cases hc : ci = ri
        · subst hc
          refine ⟨_, ?_, (C'.set i cj).set j ci, .fz (.int i), .fz (.int j), rfl, (h.set i r1).set _ r2, .inr ⟨_, rfl⟩, .inr ⟨_, rfl⟩⟩
          unfold b_law_square_1
          rcases q7 with rfl | ⟨d, rfl⟩ <;> simp [p_rd, p_cpo, p_cap, p_st, p_ret, p_arg, p_pk, p_bk, p_lo, p_lk, p_ul, rds, argsOf, setSl, lenOk, exS, exSs, evE, evSs, evCs, evAs, evTs, evI, protOf, outsOf, runF, fnB, Arg.sl, setAt, clCons, clNil, kdIs, isDict, k_bind, k_bindX, k_lift, k_stl1, k_stl2, k_stl3, k_cpo1, k_cpo2, k_rd1, k_rd2, k_bool, k_int, k_lit, k_add, k_sub, k_mul, k_mod, k_fdiv, k_pow, k_catL, k_catT, k_lt, k_le, k_gt, k_ge, k_eqI, k_neI, k_eqB, k_eq, k_ne, k_idxL, k_idxT, k_at, k_at0, k_at1, k_ix, k_lenL, k_lenT, k_abs, k_min, k_max, k_toL, k_toLT, k_toT, k_toTT, k_toI, k_toIB, k_sum, k_all, k_any, k_rng1, k_rng2, k_st1, k_st2, k_ret1, k_ret2, k_arg1, k_arg2, k_pk0, k_pk1, k_pk2, k_bk0, k_bk1, k_bk2, k_nd0, k_nd1, k_unl, k_lk0, k_ul0, k_lo1, k_sqL, k_sqT, k_app, k_clear, k_popAt, k_setD, k_setD0, k_setD1, dupV, hn, hn0, hm, a1, a2, a3, w1, w2]
        · refine ⟨_, ?_, C', .fz (.int i), .fz (.int j), rfl, h, .inr ⟨_, rfl⟩, .inr ⟨_, rfl⟩⟩
          unfold b_law_square_1
          have hc' : ¬ (ci : Int) = (ri : Int) := by omega
          rcases q7 with rfl | ⟨d, rfl⟩ <;> simp [p_rd, p_cpo, p_cap, p_st, p_ret, p_arg, p_pk, p_bk, p_lo, p_lk, p_ul, rds, argsOf, setSl, lenOk, exS, exSs, evE, evSs, evCs, evAs, evTs, evI, protOf, outsOf, runF, fnB, Arg.sl, setAt, clCons, clNil, kdIs, isDict, k_bind, k_bindX, k_lift, k_stl1, k_stl2, k_stl3, k_cpo1, k_cpo2, k_rd1, k_rd2, k_bool, k_int, k_lit, k_add, k_sub, k_mul, k_mod, k_fdiv, k_pow, k_catL, k_catT, k_lt, k_le, k_gt, k_ge, k_eqI, k_neI, k_eqB, k_eq, k_ne, k_idxL, k_idxT, k_at, k_at0, k_at1, k_ix, k_lenL, k_lenT, k_abs, k_min, k_max, k_toL, k_toLT, k_toT, k_toTT, k_toI, k_toIB, k_sum, k_all, k_any, k_rng1, k_rng2, k_st1, k_st2, k_ret1, k_ret2, k_arg1, k_arg2, k_pk0, k_pk1, k_pk2, k_bk0, k_bk1, k_bk2, k_nd0, k_nd1, k_unl, k_lk0, k_ul0, k_lo1, k_sqL, k_sqT, k_app, k_clear, k_popAt, k_setD, k_setD0, k_setD1, dupV, hn, hn0, hm, a1, a2, hc'])
  exact ⟨C', s6, s7, e, h⟩
def sqD (R C : List Nat) : D := .tuple [.tuple (natD R), .tuple (natD C)]
theorem comp_add {n y : Nat} (hn : 0 < n) (r : Ro) (h1 : r[1]? = some (.fz (.int n))) (h3 : r[3]? = some (.fz (.int y))) (h8 : r[8]? = some .un) (hl : n ≤ 1000) (p : List Nat) (hp : p.length ≤ 1000) :
    compL [0] [8] (.nm 8) (fun x => .ok true x) (fun r => cpo (evE c_law_square [0] e_law_square_1 r)) (natD p) [] r = .ok (natD (p.map fun i => (i + y) % n)) r := by
  have hh : r.length > 8 := (List.getElem?_eq_some_iff.mp h8).1
  have key := compL_map (pr := [0]) (own := [8]) (tg := .nm 8) (test := fun x => .ok true x) (elt := fun r => cpo (evE c_law_square [0] e_law_square_1 r)) (r := r) (f := fun d => match d with | .int i => .int ((i + y) % n) | d => d) (p := fun _ => true) (ds := natD p) (acc := []) (fun d hd => by
    obtain ⟨i, _, rfl⟩ := List.mem_map.mp hd
    refine ⟨r.set 8 (.fz (.int i)), r.set 8 (.fz (.int i)), ?_, rfl, (fun h => by cases h), fun _ => ⟨r.set 8 (.fz (.int i)), ?_, ?_, ?_⟩⟩
    · simp [bindT, setSl, h8]
    · have g1 : (r.set 8 (Sl.fz (.int i)))[1]? = some (.fz (.int n)) := by rw [List.getElem?_set_ne (by decide)]; exact h1
      have g3 : (r.set 8 (Sl.fz (.int i)))[3]? = some (.fz (.int y)) := by rw [List.getElem?_set_ne (by decide)]; exact h3
      have g8 : (r.set 8 (Sl.fz (.int i)))[8]? = some (.fz (.int i)) := getr hh
      generalize r.set 8 (Sl.fz (.int i)) = r' at g1 g3 g8
      unfold e_law_square_1
      simp [p_rd, p_cpo, p_cap, p_st, p_ret, p_arg, p_pk, p_bk, p_lo, p_lk, p_ul, rds, argsOf, setSl, lenOk, exS, exSs, evE, evSs, evCs, evAs, evTs, evI, protOf, outsOf, runF, fnB, Arg.sl, setAt, clCons, clNil, kdIs, isDict, k_bind, k_bindX, k_lift, k_stl1, k_stl2, k_stl3, k_cpo1, k_cpo2, k_rd1, k_rd2, k_bool, k_int, k_lit, k_add, k_sub, k_mul, k_mod, k_fdiv, k_pow, k_catL, k_catT, k_lt, k_le, k_gt, k_ge, k_eqI, k_neI, k_eqB, k_eq, k_ne, k_idxL, k_idxT, k_at, k_at0, k_at1, k_ix, k_lenL, k_lenT, k_abs, k_min, k_max, k_toL, k_toLT, k_toT, k_toTT, k_toI, k_toIB, k_sum, k_all, k_any, k_rng1, k_rng2, k_st1, k_st2, k_ret1, k_ret2, k_arg1, k_arg2, k_pk0, k_pk1, k_pk2, k_bk0, k_bk1, k_bk2, k_nd0, k_nd1, k_unl, k_lk0, k_ul0, k_lo1, k_sqL, k_sqT, k_app, k_clear, k_popAt, k_setD, k_setD0, k_setD1, dupV, g1, g3, g8, hn]
    · simp [noLk, getr hh]
    · have : r.set 8 .un = r := by
        refine List.ext_getElem? fun j => ?_
        by_cases e : 8 = j
        · subst e; rw [getr hh, h8]
        · rw [List.getElem?_set_ne e]
      simp [wipeR, this]) (by
    have := natD_len p
    simp only [List.length_nil]
    omega)
  rw [key, List.filter_eq_self.mpr fun _ _ => rfl]
  congr 1
  simp [natD]
theorem square_eq {k n : Nat} {b : D} (hb : Bg k b) (hk : k + 2 * n + 2 ≤ 1000000) (h2 : 2 ≤ n) (hn : n ≤ 1000) :
    ∃ R C b', f_law_square [.ow b, .fz (.int n)] = some (.val (.fz (sqD R C)), [.ow b', .fz (.int n)]) ∧ InR n R ∧ InR n C ∧ Bg (k + 2 * n + 2) b' := by
  obtain ⟨pl, b1, e1, pl0, pl1, B1⟩ := take_eq (many := 4) hb (by omega) (by decide) (by decide)
  obtain ⟨t, b2, e2, t0, t1, B2⟩ := take_eq (many := (n : Int) - 1) B1 (by omega) (by omega) (by omega)
  obtain ⟨R, b3, e3, pR, B3⟩ := order_eq (n := n) B2 (by omega) hn
  obtain ⟨C, b4, e4, pC, B4⟩ := order_eq (n := n) B3 (by omega) hn
  have B5 : Bg (k + 2 * n + 2) b4 := by
    rw [show k + 2 * n + 2 = k + 1 + 1 + n + n by omega]
    exact B4
  have h0 : 0 < n := by omega
  have hr : -100000 ≤ (n : Int) ∧ (n : Int) ≤ 100000 := by omega
  by_cases hp : pl = 1
  · subst hp
    obtain ⟨y, hy⟩ : ∃ y : Nat, 1 + t = y := ⟨(1 + t).toNat, by omega⟩
    have hC : InR n ((List.range n).map fun i => (i + y) % n) := ⟨by simp, fun x hx => by
      obtain ⟨i, _, rfl⟩ := List.mem_map.mp hx
      exact Nat.mod_lt _ h0⟩
    obtain ⟨C', s6, s7, e, hC'⟩ := square_loop (b := b4) (x := .int 1) (y := .int y) h0 (InR.perm (List.Perm.refl (List.range n))) hC
    have hc := comp_add (y := y) h0 [.ow b4, .fz (.int n), .fz (.int 1), .fz (.int y), .lk (.list (natD (List.range n))), .ow (.list (natD C)), .un, .un, .un] rfl rfl rfl hn (List.range n) (by rw [List.length_range]; exact hn)
    refine ⟨List.range n, C', b4, ?_, InR.perm (List.Perm.refl _), hC', B5⟩
    unfold f_law_square b_law_square
    unfold c_law_square at e hc ⊢
    simp [p_rd, p_cpo, p_cap, p_st, p_ret, p_arg, p_pk, p_bk, p_lo, p_lk, p_ul, rds, argsOf, setSl, lenOk, exS, exSs, evE, evSs, evCs, evAs, evTs, evI, protOf, outsOf, runF, fnB, Arg.sl, setAt, clCons, clNil, kdIs, isDict, k_bind, k_bindX, k_lift, k_stl1, k_stl2, k_stl3, k_cpo1, k_cpo2, k_rd1, k_rd2, k_bool, k_int, k_lit, k_add, k_sub, k_mul, k_mod, k_fdiv, k_pow, k_catL, k_catT, k_lt, k_le, k_gt, k_ge, k_eqI, k_neI, k_eqB, k_eq, k_ne, k_idxL, k_idxT, k_at, k_at0, k_at1, k_ix, k_lenL, k_lenT, k_abs, k_min, k_max, k_toL, k_toLT, k_toT, k_toTT, k_toI, k_toIB, k_sum, k_all, k_any, k_rng1, k_rng2, k_st1, k_st2, k_ret1, k_ret2, k_arg1, k_arg2, k_pk0, k_pk1, k_pk2, k_bk0, k_bk1, k_bk2, k_nd0, k_nd1, k_unl, k_lk0, k_ul0, k_lo1, k_sqL, k_sqT, k_app, k_clear, k_popAt, k_setD, k_setD0, k_setD1, dupV, e1, e2, e3, e4, hy, hr, rngD_nat, hc, e, sqD, wipeOk, wipeR, backR]
  · obtain ⟨y, hy⟩ : ∃ y : Nat, 1 + t = y := ⟨(1 + t).toNat, by omega⟩
    obtain ⟨C', s6, s7, e, hC'⟩ := square_loop (b := b4) (x := .int pl) (y := .int y) h0 (InR.perm pR) (InR.perm pC)
    refine ⟨R, C', b4, ?_, InR.perm pR, hC', B5⟩
    unfold f_law_square b_law_square
    unfold c_law_square at e ⊢
    simp [p_rd, p_cpo, p_cap, p_st, p_ret, p_arg, p_pk, p_bk, p_lo, p_lk, p_ul, rds, argsOf, setSl, lenOk, exS, exSs, evE, evSs, evCs, evAs, evTs, evI, protOf, outsOf, runF, fnB, Arg.sl, setAt, clCons, clNil, kdIs, isDict, k_bind, k_bindX, k_lift, k_stl1, k_stl2, k_stl3, k_cpo1, k_cpo2, k_rd1, k_rd2, k_bool, k_int, k_lit, k_add, k_sub, k_mul, k_mod, k_fdiv, k_pow, k_catL, k_catT, k_lt, k_le, k_gt, k_ge, k_eqI, k_neI, k_eqB, k_eq, k_ne, k_idxL, k_idxT, k_at, k_at0, k_at1, k_ix, k_lenL, k_lenT, k_abs, k_min, k_max, k_toL, k_toLT, k_toT, k_toTT, k_toI, k_toIB, k_sum, k_all, k_any, k_rng1, k_rng2, k_st1, k_st2, k_ret1, k_ret2, k_arg1, k_arg2, k_pk0, k_pk1, k_pk2, k_bk0, k_bk1, k_bk2, k_nd0, k_nd1, k_unl, k_lk0, k_ul0, k_lo1, k_sqL, k_sqT, k_app, k_clear, k_popAt, k_setD, k_setD0, k_setD1, dupV, e1, e2, e3, e4, hy, hr, rngD_nat, e, sqD, hp]
end Rk

/-! Rk, part T: what sorted gives, in plain words. -/
namespace Rk
open PySem PySem.Spec PyProof.Rows L2
def leD (x y : D) : Bool := PySem.W.dataLe false id x y
theorem leD_eq (x y : D) : leD x y = !PySem.W.dataLt y x := rfl
theorem leD_tot : PySem.W.TotalLe leD := PySem.W.sortLe_total _ false _
theorem sortD_perm (xs : List D) : (sortD xs).Perm xs := List.mergeSort_perm xs _
theorem sortD_mem {xs : List D} {x : D} : x ∈ sortD xs ↔ x ∈ xs := (sortD_perm xs).mem_iff
theorem sortD_up (xs : List D) : (sortD xs).Pairwise (fun x y => leD x y = true) := List.pairwise_mergeSort (le := leD) (fun a b c => leD_tot.trans a b c) (fun a b => by rw [Bool.or_eq_true]; exact leD_tot.total a b) xs
theorem uniq_sorted {α : Type} {le : α → α → Prop} : ∀ {a b : List α}, a.Perm b → a.Pairwise le → b.Pairwise le → (∀ x ∈ a, ∀ y ∈ a, le x y → le y x → x = y) → a = b
  | [], b, h, _, _, _ => (List.Perm.nil_eq h)
  | x :: a, [], h, _, _, _ => absurd h.length_eq (by simp)
  | x :: a, y :: b, h, ha, hb, an => by
    have exy : x = y := by
      have m1 : y ∈ x :: a := h.mem_iff.mpr List.mem_cons_self
      have m2 : x ∈ y :: b := h.mem_iff.mp List.mem_cons_self
      rcases List.mem_cons.mp m1 with z | z
      · exact z.symm
      · rcases List.mem_cons.mp m2 with w | w
        · exact w
        · exact an x List.mem_cons_self y m1 ((List.pairwise_cons.mp ha).1 y z) ((List.pairwise_cons.mp hb).1 x w)
    subst exy
    rw [uniq_sorted (List.Perm.cons_inv h) (List.pairwise_cons.mp ha).2 (List.pairwise_cons.mp hb).2 fun u hu v hv => an u (List.mem_cons_of_mem _ hu) v (List.mem_cons_of_mem _ hv)]
theorem alikeP_perm {xs ys : List D} (h : xs.Perm ys) (ha : alikeP xs = true) : alikeP ys = true := by
  unfold alikeP at ha ⊢
  exact List.all_eq_true.mpr fun x hx => List.all_eq_true.mpr fun y hy => List.all_eq_true.mp (List.all_eq_true.mp ha x (h.mem_iff.mpr hx)) y (h.mem_iff.mpr hy)
/-- a tuple of ints, one at least -/
def ITup (d : D) : Prop := ∃ (n : Int) (ns : List Int), d = .tuple ((n :: ns).map .int)
theorem ITup.isI {d : D} (h : ITup d) : isI d = true := by
  obtain ⟨n, ns, rfl⟩ := h
  exact isIs_iff.mpr fun x hx => by
    obtain ⟨i, _, rfl⟩ := List.mem_map.mp hx
    rfl
theorem ITup.alike {d e : D} (h : ITup d) (h2 : ITup e) : PySem.W.alike d e = true := by
  obtain ⟨n, ns, rfl⟩ := h
  obtain ⟨m, ms, rfl⟩ := h2
  rw [PySem.W.alike]
  exact PySem.W.alike_ints _ _
theorem ITup.shp {d : D} (h : ITup d) : Shp 1 d := by
  obtain ⟨n, ns, rfl⟩ := h
  exact shp_tuple fun x hx => by
    obtain ⟨i, _, rfl⟩ := List.mem_map.mp hx
    exact shp_int _
theorem itup_isIs {xs : List D} (h : ∀ x ∈ xs, ITup x) : isIs xs = true := isIs_iff.mpr fun x hx => (h x hx).isI
theorem itup_alike {xs : List D} (h : ∀ x ∈ xs, ITup x) : alikeP xs = true := by
  unfold alikeP
  exact List.all_eq_true.mpr fun x hx => List.all_eq_true.mpr fun y hy => (h x hx).alike (h y hy)
theorem itup_sortOk {xs : List D} (h : ∀ x ∈ xs, ITup x) (hl : xs.length ≤ 100000) : sortOk xs = true := by
  unfold sortOk
  have h1 : xs.all tupNe = true := List.all_eq_true.mpr fun x hx => by
    obtain ⟨n, ns, rfl⟩ := h x hx
    rfl
  have h2 : (xs.all fun d => decide (d.depth ≤ 50)) = true := List.all_eq_true.mpr fun x hx => decide_eq_true (Nat.le_trans (h x hx).shp.2 (by decide))
  rw [itup_alike h, h1, h2, decide_eq_true hl]
  rfl
theorem int_sortOk {xs : List D} (h : ∀ x ∈ xs, ∃ i, x = .int i) (hl : xs.length ≤ 100000) : sortOk xs = true := by
  unfold sortOk
  have h1 : xs.all plainS = true := List.all_eq_true.mpr fun x hx => by
    obtain ⟨i, rfl⟩ := h x hx
    rfl
  have h2 : (xs.all fun d => decide (d.depth ≤ 50)) = true := List.all_eq_true.mpr fun x hx => by
    obtain ⟨i, rfl⟩ := h x hx
    exact decide_eq_true (Nat.zero_le _)
  have h3 : alikeP xs = true := by
    unfold alikeP
    refine List.all_eq_true.mpr fun x hx => List.all_eq_true.mpr fun y hy => ?_
    obtain ⟨i, rfl⟩ := h x hx
    obtain ⟨j, rfl⟩ := h y hy
    rfl
  rw [h1, h2, h3, decide_eq_true hl, Bool.or_true]
  rfl
theorem leD_int (i j : Int) : leD (.int i) (.int j) = decide (i ≤ j) := by
  rw [leD_eq, PySem.W.dataLt_int, PySem.W.not_lt_int]
theorem leD_ii (x y x' y' : Int) : leD (.tuple [.int x, .int y]) (.tuple [.int x', .int y']) = decide (x < x' ∨ (x = x' ∧ y ≤ y')) := by
  rw [leD_eq, PySem.W.dataLt_ii]
  by_cases h : x < x' ∨ (x = x' ∧ y ≤ y')
  · rw [decide_eq_true h, decide_eq_false (by omega)]; rfl
  · rw [decide_eq_false h, decide_eq_true (by omega)]; rfl
theorem leD_tup (ns ms : List Int) : leD (.tuple (ns.map .int)) (.tuple (ms.map .int)) = decide (ns ≤ ms) := by
  rw [leD_eq, PySem.W.dataLt_tuple]
  show (!PySem.W.rowLt (ms.map .int) (ns.map .int)) = _
  rw [PySem.W.dataLt_ints]
  by_cases h : ms < ns
  · have h' : ¬ ns ≤ ms := fun r => List.not_lt.mpr r h
    rw [decide_eq_true h, decide_eq_false h']; rfl
  · rw [decide_eq_false h, decide_eq_true (List.not_lt.mp h)]; rfl
/-- what can be sorted: ints, or tuples of ints -/
def Srt (xs : List D) : Prop := (∀ x ∈ xs, ∃ i, x = PyData.int i) ∨ ∀ x ∈ xs, ITup x
theorem leD_anti {xs : List D} (h : Srt xs) {x y : D} (hx : x ∈ xs) (hy : y ∈ xs) (h1 : leD x y = true) (h2 : leD y x = true) : x = y := by
  rcases h with h | h
  · obtain ⟨i, rfl⟩ := h x hx
    obtain ⟨j, rfl⟩ := h y hy
    rw [leD_int] at h1 h2
    have := of_decide_eq_true h1
    have := of_decide_eq_true h2
    rw [show i = j by omega]
  · obtain ⟨n, ns, rfl⟩ := h x hx
    obtain ⟨m, ms, rfl⟩ := h y hy
    rw [leD_tup] at h1 h2
    rw [List.le_antisymm (of_decide_eq_true h1) (of_decide_eq_true h2)]
/-- what is sorted and has the same items -/
theorem sortD_uniq {xs ys : List D} (h : xs.Perm ys) (hs : ys.Pairwise (fun x y => leD x y = true)) (hi : Srt xs) : sortD xs = ys :=
  uniq_sorted ((sortD_perm xs).trans h) (sortD_up xs) hs fun x hx y hy h1 h2 => leD_anti hi (sortD_mem.mp hx) (sortD_mem.mp hy) h1 h2
theorem sortD_congr {xs ys : List D} (h : xs.Perm ys) (hi : Srt xs) : sortD xs = sortD ys :=
  sortD_uniq (h.trans (sortD_perm ys).symm) (sortD_up ys) hi
theorem perm_nodup {α : Type} [DecidableEq α] : ∀ {l p : List α}, l.Nodup → (∀ x ∈ l, x ∈ p) → p.length = l.length → p.Perm l
  | [], p, _, _, h => by
    rw [List.length_eq_zero_iff.mp h]
  | x :: l, p, hn, hs, h => by
    have hx := hs x List.mem_cons_self
    refine (List.perm_cons_erase hx).trans (List.Perm.cons x (perm_nodup (List.nodup_cons.mp hn).2 (fun y hy => ?_) ?_))
    · exact (List.mem_erase_of_ne (fun z => (List.nodup_cons.mp hn).1 (by rw [← z]; exact hy))).mpr (hs y (List.mem_cons_of_mem _ hy))
    · rw [List.length_erase_of_mem hx, h]
      rfl
/-- ints -/
theorem natD_ints {p : List Nat} : ∀ x ∈ natD p, ∃ i, x = PyData.int i := fun x hx => by
  obtain ⟨i, _, rfl⟩ := List.mem_map.mp hx
  exact ⟨_, rfl⟩
theorem natD_alike (p : List Nat) : alikeP (natD p) = true := by
  unfold alikeP
  refine List.all_eq_true.mpr fun x hx => List.all_eq_true.mpr fun y hy => ?_
  obtain ⟨i, rfl⟩ := natD_ints x hx
  obtain ⟨j, rfl⟩ := natD_ints y hy
  rfl
theorem natD_sort {p q : List Nat} (h : p.Perm q) (hq : q.Pairwise (· ≤ ·)) : sortD (natD p) = natD q :=
  sortD_uniq (List.Perm.map _ h) (List.pairwise_map.mpr (hq.imp fun {a b} z => by rw [leD_int]; exact decide_eq_true (by omega))) (.inl natD_ints)
theorem natD_sortOk {p : List Nat} (h : p.length ≤ 100000) : sortOk (natD p) = true := int_sortOk natD_ints (by rw [natD_len]; exact h)
theorem range_up (n : Nat) : (List.range n).Pairwise (· ≤ ·) := List.pairwise_lt_range.imp fun h => Nat.le_of_lt h
theorem k_sortL {xs : List D} (h : sortOk xs = true) : biop .sorted [.list xs] = some (.fr (.list (sortD xs))) := if_pos h
theorem k_sortT {xs : List D} (h : sortOk xs = true) : biop .sorted [.tuple xs] = some (.fr (.list (sortD xs))) := if_pos h
theorem natD_flat (p : List Nat) : (natD p).all flatD = true := List.all_eq_true.mpr fun x hx => by
  obtain ⟨i, _, rfl⟩ := List.mem_map.mp hx
  rfl
theorem natD_any (p : List Nat) (x : Nat) : ((natD p).any fun y => PyData.eqv y (.int (x : Int))) = decide (x ∈ p) := by
  induction p with
  | nil => simp [natD]
  | cons y p ih =>
    have : natD (y :: p) = .int (y : Nat) :: natD p := rfl
    rw [this, List.any_cons, ih]
    by_cases h : x = y
    · subst h; simp [PyData.eqv]
    · have h2 : ¬ (y : Int) = x := by omega
      simp [PyData.eqv, h, h2]
theorem cutD1 {α : Type} (xs : List α) : Rk.cutD xs (some 1) none = xs.drop 1 := by
  unfold Rk.cutD
  have e1 : HT.sIx xs.length 0 (some 1) = min 1 xs.length := HT.sIx_nat xs.length 0 1
  rw [e1, HT.sIx_none]
  cases xs with
  | nil => rfl
  | cons x p =>
    have : min 1 (x :: p).length = 1 := by simp
    rw [this]
    exact List.take_of_length_le (by simp)
theorem k_cut1 (xs : List D) : cutop (.list xs) (some 1) none = some (.fr (.list (xs.drop 1))) := by
  show some (RV.fr (.list (Rk.cutD xs (some 1) none))) = _
  rw [cutD1]
theorem k_notIn (p : List Nat) (x : Nat) : cmpop .notIn (.int (x : Int)) (.list (natD p)) = some (!decide (x ∈ p)) := by
  show (if flatD (.int (x : Int)) && (natD p).all flatD then _ else _) = _
  rw [natD_flat]
  show some (!((natD p).any fun y => PyData.eqv y (.int (x : Int)))) = _
  rw [natD_any]
theorem k_in (p : List Nat) (x : Nat) : cmpop .isIn (.int (x : Int)) (.list (natD p)) = some (decide (x ∈ p)) := by
  show (if flatD (.int (x : Int)) && (natD p).all flatD then _ else _) = _
  rw [natD_flat]
  show some ((natD p).any fun y => PyData.eqv y (.int (x : Int))) = _
  rw [natD_any]
def tupD (p : List Nat) : D := .tuple (natD p)
theorem tupD_isI (p : List Nat) : isI (tupD p) = true := natD_isI p
theorem tupD_shp (p : List Nat) : Shp 1 (tupD p) := shp_tuple (natD_shp p)
theorem tups_isI (T : List (List Nat)) : isIs (T.map tupD) = true := isIs_iff.mpr fun x hx => by
  obtain ⟨p, _, rfl⟩ := List.mem_map.mp hx
  exact tupD_isI p
theorem tups_sh (T : List (List Nat)) : shapedD (.list (T.map tupD)) = true := (shp_list (k := 1) fun x hx => by
  obtain ⟨p, _, rfl⟩ := List.mem_map.mp hx
  exact tupD_shp p).sh (by decide)
theorem intsD_nat : ∀ p : List Nat, intsD (natD p) = some (p.map fun i : Nat => (i : Int))
  | [] => rfl
  | x :: p => by
    show (intsD (natD p)).map (fun r => ((x : Int)) :: r) = _
    rw [intsD_nat p]
    rfl
theorem eqv_self (x : D) (h : isI x = true) : PyData.eqv x x = true := (eqv_isI x x h h).mpr rfl
/-- x in ys, tuples and the like -/
theorem inOk_of {x : D} {ys : List D} {k : Nat} (hk : k ≤ 50) (h : Shp k x) (hy : ∀ y ∈ ys, Shp k y) : inOk x ys = true := by
  unfold inOk
  rw [h.1, (shp_all hy).1, decide_eq_true (Nat.le_trans h.2 hk)]
  rfl
theorem k_inX {x : List D} {ys : List D} {k : Nat} (hk : k ≤ 50) (h : Shp k (.tuple x)) (hy : ∀ y ∈ ys, Shp k y) : cmpop .isIn (.tuple x) (.list ys) = some (ys.any fun y => PyData.eqv y (.tuple x)) := by
  show (if false = true then some (ys.any fun y => PyData.eqv y (.tuple x)) else if inOk (.tuple x) ys = true then some (ys.any fun y => PyData.eqv y (.tuple x)) else none) = _
  rw [inOk_of hk h hy]
  rfl
theorem k_notInX {x : List D} {ys : List D} {k : Nat} (hk : k ≤ 50) (h : Shp k (.tuple x)) (hy : ∀ y ∈ ys, Shp k y) : cmpop .notIn (.tuple x) (.list ys) = some (!ys.any fun y => PyData.eqv y (.tuple x)) := by
  show (if false = true then some (!ys.any fun y => PyData.eqv y (.tuple x)) else if inOk (.tuple x) ys = true then some (!ys.any fun y => PyData.eqv y (.tuple x)) else none) = _
  rw [inOk_of hk h hy]
  rfl
theorem any_eqv {x : D} {ys : List D} (h : isI x = true) (hy : isIs ys = true) : (ys.any fun y => PyData.eqv y x) = true ↔ x ∈ ys := by
  rw [List.any_eq_true]
  constructor
  · rintro ⟨y, hm, e⟩
    rw [← (eqv_isI y x (isIs_iff.mp hy y hm) h).mp e]
    exact hm
  · intro hm
    exact ⟨x, hm, eqv_self x h⟩
theorem k_all1 (ds : List D) : biop .all [.list (ds.map fun _ => PyData.bool true)] = some (.fz (.bool true)) := by
  have : boolsD (ds.map fun _ => PyData.bool true) = some (ds.map fun _ => true) := by
    induction ds with
    | nil => rfl
    | cons d ds ih =>
      show (boolsD (ds.map fun _ => PyData.bool true)).map _ = _
      rw [ih]
      rfl
  show (boolsD (ds.map fun _ => PyData.bool true)).map _ = _
  rw [this]
  simp
def cellD (c r : Nat) : D := .tuple [.int (c : Nat), .int (r : Nat)]
theorem cell_itup (c r : Nat) : ITup (cellD c r) := ⟨c, [(r : Int)], rfl⟩
theorem leD_cell (c r c' r' : Nat) : leD (cellD c r) (cellD c' r') = decide (c < c' ∨ (c = c' ∧ r ≤ r')) := by
  unfold cellD
  rw [leD_ii]
  by_cases h : c < c' ∨ (c = c' ∧ r ≤ r')
  · rw [decide_eq_true h, decide_eq_true (by omega)]
  · rw [decide_eq_false h, decide_eq_false (by omega)]
theorem cell_inj {c r c' r' : Nat} (h : cellD c r = cellD c' r') : c = c' ∧ r = r' := by
  unfold cellD at h
  simp at h
  omega
/-- cells, column by column -/
def grid (cs : List Nat) (rs : Nat → List Nat) : List D := cs.flatMap fun c => (rs c).map (cellD c)
theorem grid_itup {cs : List Nat} {rs : Nat → List Nat} : ∀ x ∈ grid cs rs, ITup x := fun x hx => by
  obtain ⟨c, _, h⟩ := List.mem_flatMap.mp hx
  obtain ⟨r, _, rfl⟩ := List.mem_map.mp h
  exact cell_itup c r
theorem grid_mem {cs : List Nat} {rs : Nat → List Nat} {c r : Nat} : cellD c r ∈ grid cs rs ↔ c ∈ cs ∧ r ∈ rs c := by
  unfold grid
  rw [List.mem_flatMap]
  constructor
  · rintro ⟨c', h1, h2⟩
    obtain ⟨r', h3, e⟩ := List.mem_map.mp h2
    obtain ⟨rfl, rfl⟩ := cell_inj e
    exact ⟨h1, h3⟩
  · rintro ⟨h1, h2⟩
    exact ⟨c, h1, List.mem_map.mpr ⟨r, h2, rfl⟩⟩
theorem grid_up {cs : List Nat} {rs : Nat → List Nat} (h1 : cs.Pairwise (· < ·)) (h2 : ∀ c ∈ cs, (rs c).Pairwise (· ≤ ·)) : (grid cs rs).Pairwise (fun x y => leD x y = true) := by
  unfold grid
  rw [List.pairwise_flatMap]
  refine ⟨fun c hc => List.pairwise_map.mpr ((h2 c hc).imp fun {a b} z => by rw [leD_cell]; exact decide_eq_true (.inr ⟨rfl, z⟩)), h1.imp fun {c c'} z x hx y hy => ?_⟩
  obtain ⟨r, _, rfl⟩ := List.mem_map.mp hx
  obtain ⟨r', _, rfl⟩ := List.mem_map.mp hy
  rw [leD_cell]
  exact decide_eq_true (.inl z)
theorem grid_len (cs : List Nat) (rs : Nat → List Nat) (m : Nat) (h : ∀ c ∈ cs, (rs c).length ≤ m) : (grid cs rs).length ≤ cs.length * m := by
  induction cs with
  | nil => simp [grid]
  | cons c cs ih =>
    have h1 : grid (c :: cs) rs = (rs c).map (cellD c) ++ grid cs rs := by simp [grid]
    have := h c List.mem_cons_self
    have := ih fun c hc => h c (List.mem_cons_of_mem _ hc)
    rw [h1, List.length_append, List.length_map, List.length_cons, Nat.succ_mul]
    omega
theorem perm_of_mem {l l' : List Nat} (h1 : l.Nodup) (h2 : l'.Nodup) (h : ∀ x, x ∈ l ↔ x ∈ l') : l.Perm l' := (List.perm_ext_iff_of_nodup h1 h2).mpr h
end Rk

/-! Rk, part U: a def whose suite is one try: exceptions are answered by a handler. -/
namespace Rk
open PySem PySem.Spec PyProof.Rows L2
/-- of an exception of class c the handler's answer -/
def fnT (hs : String → Option D) (fn : Fn) : Fn := fun as => match fn as with
  | some (.ex c, o) => (hs c).map fun d => (.val (.fz d), o)
  | z => z
/-- what never lets an exception out -/
def noEx (fn : Fn) : Fn := fun as => match fn as with
  | some (.ex _, _) => none
  | z => z
theorem fnT_val {hs : String → Option D} {fn : Fn} {as : List Arg} {a : Arg} {o : List Arg} (h : fn as = some (.val a, o)) : fnT hs fn as = some (.val a, o) := by
  unfold fnT
  rw [h]
theorem fnT_ex {hs : String → Option D} {fn : Fn} {as : List Arg} {c : String} {o : List Arg} {d : D} (h : fn as = some (.ex c, o)) (hd : hs c = some d) : fnT hs fn as = some (.val (.fz d), o) := by
  unfold fnT
  rw [h]
  simp [hd]
theorem noEx_val {fn : Fn} {as : List Arg} {a : Arg} {o : List Arg} (h : fn as = some (.val a, o)) : noEx fn as = some (.val a, o) := by
  unfold noEx
  rw [h]
/-- data without an address -/
def vOf : D → V
  | .bool b => .bl b
  | .int i => .int i
  | .str x => .str x
  | _ => .non
def immD : D → Bool
  | .none => true
  | .bool _ => true
  | .int _ => true
  | .str _ => true
  | _ => false
theorem vOf_dp {K : Frag} {F : Hp} {d : D} (h : immD d = true) : Dp K F (vOf d) d := by
  cases d with
  | none => exact .non
  | bool b => exact .bl b
  | int i => exact .int i
  | str x => exact .str x
  | _ => cases h
/-- new things are laid into the heap -/
inductive Gw : Hp → Hp → Prop
  | refl (H : Hp) : Gw H H
  | new {H H1 : Hp} {T : Addr} {o : HO} : Gw H H1 → H1 T = none → Gw H (upd H1 T o)
theorem Gw.trans {H H1 H2 : Hp} (a : Gw H H1) (b : Gw H1 H2) : Gw H H2 := by
  induction b with
  | refl => exact a
  | new b hn ih => exact .new ih hn
theorem R.gw {K : Frag} {fm : Fm} {pr : List Nat} {π : List Pin} {F : Hp} {σ : St} {r : Ro} {H H1 : Hp} (h : R K fm pr π F σ r H) (g : Gw H H1) : R K fm pr π F σ r H1 := by
  induction g with
  | refl => exact h
  | new g hn ih => exact (ih.newP hn).drop rfl
/-- the handler, ready -/
structure HdOk (X : Cx) (cv : String → Value) (x : Str) (suite : List Stmt) (hs : String → Option D) (c : Value) (i : Nat) : Prop where
  nm : Names X x c
  im : ∀ s d, hs s = some d → immD d = true
  ex : ∀ s d, hs s = some d → PySem.W.exmOne X.K (cv s) c = some true
  run : ∀ s d, hs s = some d → ∀ (a : Addr) (oe : Obj) (pn : List (Addr × Obj)), L2N.Zn (cv s) none oe → (∃ vs, oe.data = .fields vs) →
    PSs (X.suite a ((a, oe) :: pn)) suite (fun D σ H => σ[i]? = some (some (.ref a)) ∧ ∀ H1, Gw H H1 → D.rt (vOf d) H1)
section
variable {P : Program} {w : World} {K : Frag} {mg : Str → Option Value} {base : Heap} {cl : Cl} {cv : String → Value}
theorem try_ok {x y n qual : Str} {st b₀ : Stmt} {f : Addr} {fd : FuncData} {N ps : List Str} {k fu i : Nat} {body : Ss} {tb suite : List Stmt} {np pos pos' : Pos} {c : Value} {hs : String → Option D}
    (Fu : Fun K x qual st f fd) (S : FnScope N ps (defScope st)) (en : Env1 P w K mg base cl cv k)
    (hst : defBody st = [.Try tb [.ExceptHandler (some (.Name y np)) (some n) (b₀ :: suite) pos'] [] [] pos]) (hi : N[i]? = some n) (hln : (defScope st).names.lookup n = some .local)
    (hck : ckSs N (defScope st) body tb = true) (hrs : ∀ c ∈ rsSs body, RaiseOk K mg c (cv c))
    (hgm : ∀ c ∈ cstTab, Str.ofString c.2.1 ∈ N → ∃ v u, mg (Str.ofString c.1) = some u ∧ RelV v u ∧ ∀ F, Dp K F v c.2.2)
    (hh : ∀ X : Cx, X.prog = P → X.w = w → X.base = base → X.K = K → X.mg = mg → X.N = N → X.env.scope = defScope st → L2H.RoomH k X.A → (∀ z, glB (defScope st) z = true → Gl X z) → HdOk X cv y (b₀ :: suite) hs c i) :
    FnOk P w K mg base (L2N.CX P w) (k + 1) f fd ps (spOf K cv ps.length (fnT hs (fnB cl fu N.length ps.length body))) := by
  refine okXN Fu S (fun vs H Q E h => h.1) fun cdv A outer s H vs Q E hr ⟨hl, F, as, out, outs, ex, ar, hf, kk⟩ => ?_
  have hfr : fnB cl fu N.length ps.length body as = runF cl fu N.length body as := by
    unfold fnB
    rw [if_pos (by rw [← ar.len, hl])]
  unfold fnT at hf
  rw [hfr] at hf
  have tk : L2N.Takes (cxOf (L2N.CX P w) P w K mg base N qual (defScope st) f cdv A outer s H E) (fun cls d _ H => E cls d H) := L2N.takes_of rfl rfl rfl rfl
  have g : ∀ pn xe, GoodS cl cv N (defScope st) ((cxOf (L2N.CX P w) P w K mg base N qual (defScope st) f cdv A outer s H E).tr pn xe) := fun pn xe => by
    refine ⟨⟨rfl, S.nd, rfl, rfl, ?_, fun f fn hf => ?_, en.blt, hgm⟩, S.kind, fun _ => rfl⟩
    · have := hr.un
      show (A.deeper (envOfC qual (defScope st) s.heap.objs.size f cdv)).units + 64 < cLine
      omega
    · obtain ⟨a, fd, ps, j, h1, h2, h3⟩ := en.fns f fn hf
      exact ⟨a, fd, ps, j, h1, hr.mono h2, h3⟩
  have g0 : GoodS cl cv N (defScope st) (cxOf (L2N.CX P w) P w K mg base N qual (defScope st) f cdv A outer s H E) := g [] _
  have hd := hh (cxOf (L2N.CX P w) P w K mg base N qual (defScope st) f cdv A outer s H E) rfl rfl rfl rfl rfl rfl rfl (L2H.roomH_of hr) fun z hz => g0.gl hz
  have hkl : (cxOf (L2N.CX P w) P w K mg base N qual (defScope st) f cdv A outer s H E).env.kindOf n = some .local := by
    exact hln
  rw [hst]
  refine ⟨_, pss_one (L2N.ps_try_as (i := i) (tb := fun W => tSt K (protOf as 0) W cv (exSs cl (protOf as 0) fu body)) (ts := fun a cls d D σ H => (∃ σ0 : St, σ = σ0.set i (some (.ref a))) ∧ ∃ s v, hs s = some v ∧ cls = cv s ∧ d = none ∧ ∀ H1, Gw H H1 → D.rt (vOf v) H1)
    rfl rfl S.nd hi hkl hd.nm tk (fun W pn xe tk' hp' => sSs (fu := fu) (g pn xe) tk' hp' en.nl (protOf as 0) body tb hck hrs) (fun a oe cls d pn hz hff => ⟨fun pins s σ H D I ⟨⟨σ0, h0⟩, s', v, h1, h2, h3, h4⟩ => ?_⟩)), fmOf F H vs as, [], F, _, R.start (N := N) ex ar, ?_⟩
  · subst h2 h3 h0
    have hl := I.len
    rw [List.length_set] at hl
    have hi2 : i < σ0.length := by
      rw [hl]
      exact (List.getElem?_eq_some_iff.mp hi).1
    exact (hd.run s' v h1 a oe pn hz hff).run pins s _ H D I ⟨by simp [hi2], h4⟩
  unfold runF at hf
  cases he : exSs cl (protOf as 0) fu body (as.map Arg.sl ++ List.replicate (N.length - as.length) .un) with
  | no => rw [he] at hf; cases hf
  | ex c' r =>
    rw [he] at hf
    dsimp only at hf
    cases ho : outsOf as 0 r with
    | none => rw [ho] at hf; cases hf
    | some o =>
      rw [ho] at hf
      have hf : (hs c').map (fun d => (Out.val (Arg.fz d), o)) = some (out, outs) := hf
      obtain ⟨v, hv, e⟩ := Option.map_eq_some_iff.mp hf
      cases e
      intro σ' F' H' e h
      refine ⟨true, hd.ex c' v hv, fun _ a ha => ⟨⟨σ', rfl⟩, c', v, hv, rfl, rfl, fun H1 gw => kk F' H1 ((h.gw gw).leave ho) (vOf v) (vOf_dp (hd.im c' v hv))⟩, fun q => nomatch q⟩
  | ok fl r =>
    rw [he] at hf
    cases fl with
    | nx =>
      dsimp only at hf
      cases ho : outsOf as 0 r with
      | none => rw [ho] at hf; cases hf
      | some o =>
        rw [ho] at hf
        cases hf
        exact fun σ' F' H' e h => kk F' H' (h.leave ho) _ .non
    | bk => cases hf
    | ct => cases hf
    | rt a =>
      dsimp only at hf
      cases ho : outsOf as 0 r with
      | none => rw [ho] at hf; cases hf
      | some o =>
        rw [ho] at hf
        cases hf
        intro σ' F' H' v e h
        cases a with
        | fz d => exact kk F' H' (h.1.leave ho) v h.2
        | ow d =>
          obtain ⟨p, ob, rfl, hR, hc, hq⟩ := h
          obtain ⟨p1, p2, p3⟩ := hR.pin ⟨none, p, ob⟩ List.mem_cons_self
          refine kk F' H' ((hR.drop rfl).leave ho) p ob ?_ p2 p1 hc
          rcases p3 with z | ⟨k', d', z1, z2⟩
          · exact z
          · exact absurd rfl (hq (k', p) (ownP_mem.mpr ⟨d', z1, z2⟩))
/-- try: .. except y as n: return None -/
def tryCk (N : List Str) (sc : Scope) (body : Ss) (y n : Str) (i : Nat) : List Stmt → Bool
  | [.Try tb [.ExceptHandler (some (.Name y' _)) (some n') [.Return (some (.Constant .none _ _)) _] _] [] [] _] => decide (y' = y) && decide (n' = n) && decide (N[i]? = some n) && decide (sc.names.lookup n = some .local) && glB sc y && okName y && ckSs N sc body tb
  | _ => false
theorem def_try {x y n qual : Str} {nm : String} {st : Stmt} {f C : Addr} {fd : FuncData} {N ps : List Str} {k fu i : Nat} {body : Ss} {hs : String → Option D}
    (Fu : Fun K x qual st f fd) (hb : Binds K fd ps []) (hm : mg (Str.ofString nm) = some (.ref f)) (S : FnScope N ps (defScope st)) (en : Env1 P w K mg base cl cv k)
    (hck : tryCk N (defScope st) body y n i (defBody st) = true) (hy : mg y = some (.ref C)) (hex : ∀ s d, hs s = some d → d = .none ∧ PySem.W.exmOne K (cv s) (.ref C) = some true)
    (hrs : ∀ c ∈ rsSs body, RaiseOk K mg c (cv c) := by intro c hc; exact absurd hc (List.not_mem_nil (a := c))) (hgm : ∀ c ∈ cstTab, Str.ofString c.2.1 ∈ N → ∃ v u, mg (Str.ofString c.1) = some u ∧ RelV v u ∧ ∀ F, Dp K F v c.2.2 := by intro c hc hm; exact absurd hm (by revert c; decide +kernel)) :
    Has P w K mg base cv (k + 1) nm (fnT hs (fnB cl fu N.length ps.length body)) := by
  refine ⟨f, fd, ps, k + 1, ?_, Nat.le_refl _, hm, Fu.kp, hb, fun as z e => ?_⟩
  · unfold tryCk at hck
    split at hck
    · rename_i tb y' p1 n' j p2 p3 p4 p5 heq
      obtain ⟨hck, h7⟩ := and2 hck
      obtain ⟨hck, h6⟩ := and2 hck
      obtain ⟨hck, h5⟩ := and2 hck
      obtain ⟨hck, h4⟩ := and2 hck
      obtain ⟨hck, h3⟩ := and2 hck
      obtain ⟨h1, h2⟩ := and2 hck
      obtain rfl := of_decide_eq_true h1
      obtain rfl := of_decide_eq_true h2
      refine try_ok (i := i) (c := .ref C) Fu S en heq (of_decide_eq_true h3) (of_decide_eq_true h4) h7 hrs hgm fun X _ _ _ eK emg eN esc _ hgl => ?_
      refine ⟨⟨hgl _ h5, (okName_of h6).1, .inl (by rw [emg]; exact hy)⟩, fun s d h => ?_, fun s d h => ?_, fun s d h a oe pn hz hf => ?_⟩
      · rw [(hex s d h).1]
        rfl
      · rw [eK]
        exact (hex s d h).2
      · rw [(hex s d h).1]
        refine ⟨fun pins sh σ H D I ⟨_, k⟩ => (pss_one (ps_ret pe_non)).run pins sh σ H D I ?_⟩
        exact k H (.refl H)
    · cases hck
  · have : ∃ z', fnB cl fu N.length ps.length body as = some z' := by
      unfold fnT at e
      split at e
      · exact ⟨_, by assumption⟩
      · exact ⟨_, e⟩
    obtain ⟨z', e'⟩ := this
    unfold fnB at e'
    split at e'
    · assumption
    · cases e'
theorem fn_noEx {f : Addr} {fd : FuncData} {ps : List Str} {k n : Nat} {fn : Fn} {cv' : String → Value} (h : FnOk P w K mg base (L2N.CX P w) k f fd ps (spOf K cv n fn)) : FnOk P w K mg base (L2N.CX P w) k f fd ps (spOf K cv' n (noEx fn)) := by
  refine h.imp fun vs H Q E ⟨hl, F, as, out, outs, ex, ar, hf, kk⟩ => ?_
  unfold noEx at hf
  split at hf
  · cases hf
  · rename_i z hz
    cases out with
    | ex c => exact absurd hf (hz c outs)
    | val a => cases a <;> exact ⟨hl, F, as, _, outs, ex, ar, hf, kk⟩
theorem law_noEx {fn : Fn} (h : LawTrue fn) : LawTrue (noEx fn) := fun ns hl => by
  obtain ⟨outs, e⟩ := h ns hl
  exact ⟨outs, noEx_val e⟩
theorem cls_bool {C : Addr} (h2 : PySem.W.isClsIn K C = true) (h3 : PySem.W.typeIn K (.ref C) = some (.type "type")) : ((PySem.W.clsIn K C).isSome && PySem.W.typeIn K (.ref C) == some (.type "type")) = true := by
  have h2' : (PySem.W.clsIn K C).isSome = true := h2
  rw [h2', h3] <;> rfl
theorem exm_own {t : Value} {C : Addr} (h1 : PySem.W.subIn K (.ref C) (.type "BaseException") = some true) (h2 : PySem.W.isClsIn K C = true) (h3 : PySem.W.typeIn K (.ref C) = some (.type "type")) (h4 : PySem.W.subIn K t (.ref C) = some true) :
    PySem.W.exmOne K t (.ref C) = some true := by
  have e1 : (PySem.W.subIn K (.ref C) (.type "BaseException") == some true) = true := by rw [h1] <;> rfl
  show (if (PySem.W.subIn K (.ref C) (.type "BaseException") == some true) = true then (if ((PySem.W.clsIn K C).isSome && PySem.W.typeIn K (.ref C) == some (.type "type")) = true then PySem.W.subIn K t (.ref C) else none) else none) = some true
  rw [if_pos e1, if_pos (cls_bool h2 h3)]
  exact h4
theorem kit_own {D C : Addr} {b : Bool} (h2 : PySem.W.isClsIn K C = true) (h3 : PySem.W.typeIn K (.ref C) = some (.type "type")) (h4 : PySem.W.subIn K (.ref D) (.ref C) = some b) (hD : PySem.W.subIn K (.ref D) (.ref D) = some true) : PySem.W.kitOne K (.ref D) (.ref C) = some b := by
  unfold PySem.W.kitOne
  split
  · rename_i e
    have e : Value.ref D = Value.ref C := beq_iff_eq.mp e
    rw [← e, hD] at h4
    exact h4
  · show (if ((PySem.W.clsIn K C).isSome && PySem.W.typeIn K (.ref C) == some (.type "type")) = true then PySem.W.subIn K (.ref D) (.ref C) else none) = some b
    rw [if_pos (cls_bool h2 h3)]
    exact h4
theorem kit_VE {D : Addr} (h : PySem.W.subIn K (.ref D) (.type "ValueError") = some true) : PySem.W.kitOne K (.ref D) (.type "ValueError") = some true := by
  unfold PySem.W.kitOne
  split
  · rfl
  · show (if PySem.W.kitMeta "ValueError" = true then PySem.W.subIn K (.ref D) (.type "ValueError") else none) = some true
    rw [if_pos (by decide +kernel)]
    exact h
end
end Rk

/-! Rk, part V: what an except suite asks of its exception. -/
namespace Rk
open PySem PySem.Spec PyProof.Rows L2
open L2H (RoomH Hot1 PinOk cxH inv_startH roomH_of)
/-! ### a def called with the exception -/
structure FnP (P : Program) (w : World) (K : PySem.W.Frag) (mg : Str → Option Value) (base : Heap) (CX : CXT) (k : Nat) (f : Addr) (fd : FuncData) (ps : List Str) (sp : Addr × Obj → Sp) : Prop where
  len : ∀ p vs H Q E, sp p vs H Q E → vs.length = ps.length
  run : ∀ (A : Around) (outer : List Env) (s : Shared) (H : Hp) (args : Args) (us : List Value) (vs : List V) (Q : VK) (E : XK) (p : Addr × Obj), RoomH k A → Hot1 A p → PinOk outer H s p → Env0 P w K mg base A outer s H → BindsTo s fd args (ps.zip us) → Vals vs us → sp p vs H Q E →
    codeAny (model P w) A (.call (.ref f) args) (CR CX outer P w H s Q E) s
theorem fn_ofP {CX : CXT} {P : Program} {w : World} {K : PySem.W.Frag} {mg : Str → Option Value} {base : Heap} {k : Nat} {f : Addr} {name qual : Str} {params : Arguments} {body : List Stmt} {scope : Scope} {dV kV doc pm cdv ct oc : Value} {an od : Option Addr}
    {osl : Array (Option Value)} {N ps : List Str} {sp : Addr × Obj → Sp} (lk : K.lookup f = some ⟨oc, od, .func (PySem.W.fnOf name qual params body scope dV kV doc pm an cdv ct), osl⟩) (hcd : PySem.W.codeIn K cdv qual = true) (S : FnScope N ps scope)
    (len : ∀ p vs H Q E, sp p vs H Q E → vs.length = ps.length)
    (hbody : ∀ (A : Around) (outer : List Env) (s : Shared) (H : Hp) (vs : List V) (Q : VK) (E : XK) (p : Addr × Obj), Hot1 A p → RoomH k (A.deeper (envOfC qual scope s.heap.objs.size f cdv)) → sp p vs H Q E →
      ∃ t, PSs (cxH CX P w K mg base N qual scope f cdv A outer s H E p) body t ∧ t { nx := fun _ H' => Q .non H', rt := Q } (L2.start N vs) H) :
    FnP P w K mg base CX (k + 1) f (PySem.W.fnOf name qual params body scope dV kV doc pm an cdv ct) ps sp := by
  refine ⟨len, fun A outer s H args us vs Q E p hr hot hpin e0 hb r hsp => ?_⟩
  have hl := len _ _ _ _ _ hsp
  have KX : K.In s.heap := e0.mod.kin.keeps fun b o e => (e0.bs b o e).1
  have lim : s.heap.NoLimit := e0.mod.nolimit.keeps fun b o e => (e0.bs b o e).1
  have hkind : ∀ y ∈ ps.zip us, scope.names.lookup y.1 = some .local ∨ (scope.names.lookup y.1 = some .cell ∧ ((cellsFrom (s.heap.objs.size + 1) scope.names []).lookup y.1).isSome = true) := fun ⟨n, v⟩ hy => by
    rcases S.par n (List.of_mem_zip hy).1 with q | q
    · exact .inl q
    · exact .inr ⟨q, PySem.W.cellsFrom_some _ _ _ (.inl q)⟩
  refine codeAny_call_function hr.depth (KX _ _ lk) rfl S.co S.gen rfl (PySem.W.codeRec_of KX hcd) (hb _ _ _ _ ?_)
  refine wpAny_newFunctionEnv_cells S.kind hkind fun env he s1 x => ?_
  subst he
  refine ⟨lim.keeps x.toInCall.keep, codeAny_func ?_⟩
  obtain ⟨t, ht, hq⟩ := hbody A outer s H vs Q E p hot (hr.deeper _) hsp
  have I : Inv (cxH CX P w K mg base N qual scope f cdv A outer s H E p) [] (L2.start N vs) H s1 := inv_startH S hpin e0 hl r x
  refine wpAny_mono (ht.run [] s1 (L2.start N vs) H _ I hq) (fun fl s' hs => ?_) fun e s' hs => hs
  have fin : ∀ {σ' : St} {H' : Hp} {v : V} {u : Value}, Inv (cxH CX P w K mg base N qual scope f cdv A outer s H E p) [] σ' H' s' → RelV v u → Q v H' → CE outer P w H s Q u s' :=
    fun {σ' H' v u} J rv q => ⟨v, H', J.os, J.bare, J.base, J.hok, rv, q⟩
  cases fl with
  | ret u =>
    obtain ⟨v, σ', H', J, rv, q⟩ := hs
    exact fin J rv q
  | next =>
    obtain ⟨σ', H', J, q⟩ := hs
    exact fin (v := V.non) (u := Value.none) J rfl q
  | brk =>
    obtain ⟨_, _, _, q⟩ := hs
    exact False.elim q
  | cont =>
    obtain ⟨_, _, _, q⟩ := hs
    exact False.elim q
section
variable {X : Cx} {k : Nat} {f : Addr} {fd : FuncData} {ps : List Str} {sp : Addr × Obj → Sp} {x : Str} {q pos : Pos} {e : Expr} {es : List Expr} {t : TA} {p : Addr × Obj}
theorem run_fnP {pins : List (Addr × Obj)} {σ : St} {H : Hp} {s : Shared} {Q : VK} {us : List Value} {vs : List V} (F : FnP X.prog X.w X.K X.mg X.base CX0 k f fd ps sp) (hr : RoomH k X.A) (hot : Hot1 X.A p) (hp : p ∈ X.pn) (hb : Binds X.K fd ps [])
    (I : Inv X pins σ H s) (r : Vals vs us) (h : sp p vs H Q E0) : wpAny (model X.prog X.w) X.A (call (.ref f) us) (EP X pins σ Q) X.xe s := by
  have hl : us.length = ps.length := by rw [← r.length]; exact F.len _ _ _ _ _ h
  have b := hb s us I.kIn (by rw [List.append_nil]; exact hl)
  rw [List.append_nil] at b
  have P1 := I.pin p (List.mem_append_left _ hp)
  have hpin : PinOk X.stack H s p := ⟨P1.1, P1.2.1, fun hm => (List.mem_cons.mp (I.stkSub p.1 hm)).elim P1.2.2.1 P1.2.2.2.1, P1.2.2.2.2⟩
  refine wpAny_call (codeAny_mono (F.run X.A X.stack s H ⟨us, []⟩ us vs Q E0 p hr hot hpin I.env0 b r h) fun r s' hq => ?_)
  cases r with
  | error e => exact hq.elim
  | ok fl =>
    cases fl with
    | ret u => exact I.after hq
    | next => exact False.elim hq
    | brk => exact False.elim hq
    | cont => exact False.elim hq
theorem pe_callP (F : FnP X.prog X.w X.K X.mg X.base CX0 k f fd ps sp) (hr : RoomH k X.A) (hot : Hot1 X.A p) (hp : p ∈ X.pn) (hg : Gl X x) (hm : X.mg x = some (.ref f)) (hk : PySem.W.keepIn X.K (.ref f) = true) (hb : Binds X.K fd ps [])
    (ha : PA X (e :: es) t) (hdb : (x == ("__debug__" : Str)) = false := by decide) (he : starEach (e :: es) X.env = (false, eval e X.env) :: starEach es X.env := by rfl) (hpl : (backTo pos (starEach es X.env)).any (·.1) = false := by rfl) :
    PE X (.Call (.Name x q) (e :: es) [] pos) (fun σ H Q => t σ H fun vs H1 => sp p vs H1 Q E0) := by
  refine ⟨fun pins s σ H Q I h => ?_⟩
  refine wpAny_Call_Name_kw (ld_glob I hg hm ?_ hdb)
  refine PySem.W.callWith_K (h₀ := X.base) I.ok.mod.kin hk (thn (ha.run pos pins s σ H _ I h) fun us s1 ⟨vs, H1, I1, r, q⟩ => ⟨I1.kIn, ?_⟩) he hpl
  exact run_fnP F hr hot hp hb I1 r q
/-! ### isinstance -/
theorem call_isP {a D : Addr} {oe : Obj} (C : ExcC X.K D) (hp : (a, oe) ∈ X.pn) (hz : Zc (.ref D) none oe) (hf : ∃ vs, oe.data = .fields vs) : CallR X (.builtin "isinstance") (rIsE X.K D a) := by
  intro pins s σ H xs us Q I r h
  obtain ⟨c, cv, b, rfl, hcv, e, q⟩ := h
  cases r with
  | cons rx rr =>
    cases rr with
    | cons rt rr =>
      cases rr
      cases rx
      have ec := hcv _ rt
      subst ec
      obtain ⟨hget, _⟩ := I.pin (a, oe) (List.mem_append_left _ hp)
      obtain ⟨vs, hv⟩ := hf
      have J : PySem.W.InstAt s.heap a oe D none := by
        obtain ⟨oc, od, oda, osl⟩ := oe
        obtain ⟨h1, h2⟩ := hz
        dsimp only at h1 h2 hv
        subst h1 h2 hv
        exact ⟨hget, rfl, rfl, trivial⟩
      exact PySem.W.kia_one (PySem.W.handS_kitx_exc C.hg C.hk C.hs C.hd C.ha C.hn C.ht C.hm) I.kIn J e (fun z => nomatch z) fun tk => ⟨.bl b, H, I.kept (t' := tk) fun _ _ z => z, rfl, q⟩
def rIsPT (K : PySem.W.Frag) (D a : Addr) : List V → Hp → VK → Prop := fun xs H Q => ∃ (tp : Addr) (cs : List V) (us : List Value) (b : Bool), xs = [.ref a, .ref tp] ∧ H tp = some (.tup cs) ∧ Paired ClsV cs us ∧ PySem.W.kitAny K (.ref D) us = some b ∧ Q (.bl b) H
theorem call_isPT {a D : Addr} {oe : Obj} (C : ExcC X.K D) (hp : (a, oe) ∈ X.pn) (hz : Zc (.ref D) none oe) (hf : ∃ vs, oe.data = .fields vs) : CallR X (.builtin "isinstance") (rIsPT X.K D a) := by
  intro pins s σ H xs us Q I r h
  obtain ⟨tp, cs, ws, b, rfl, hT, k, e, q⟩ := h
  obtain ⟨u1, u2, rfl, r1, r2⟩ := vals2 r
  cases (show u1 = Value.ref a from r1)
  cases (show u2 = Value.ref tp from r2)
  obtain ⟨hget, _⟩ := I.pin (a, oe) (List.mem_append_left _ hp)
  obtain ⟨vs, hv⟩ := hf
  have J : PySem.W.InstAt s.heap a oe D none := by
    obtain ⟨oc, od, oda, osl⟩ := oe
    obtain ⟨h1, h2⟩ := hz
    dsimp only at h1 h2 hv
    subst h1 h2 hv
    exact ⟨hget, rfl, rfl, trivial⟩
  obtain ⟨_, its, rv, o, h1, h2, n, h3⟩ := (show ObjOk X.prog X.w H s.heap tp (.tup cs) from I.hok tp _ hT)
  have e3 := ClsV.all k rv
  subst e3
  obtain ⟨oc, od, dt, sl⟩ := o
  simp only at h2 h3
  subst h2 h3
  exact PySem.W.kia_tup (PySem.W.handS_kitx_exc C.hg C.hk C.hs C.hd C.ha C.hn C.ht C.hm) I.kIn J h1 e (fun z => nomatch z) fun tk => ⟨.bl b, H, I.tok tk, rfl, q⟩
end
/-! ### questions -/
inductive BX where
  | isC (c : String)
  | isV
  | isT (cs : List String)
  | nt (b : BX)
  | orr (a b : BX)
  | eqq (a b : BX)
  | call (f : String)
def bev (tab ct : String → Bool) : BX → Bool
  | .isC c => tab c
  | .isV => true
  | .isT cs => cs.any tab
  | .nt b => !bev tab ct b
  | .orr a b => bev tab ct a || bev tab ct b
  | .eqq a b => bev tab ct a == bev tab ct b
  | .call f => ct f
def namesB (sc : Scope) : List String → List Expr → Bool
  | [], [] => true
  | c :: cs, .Name x _ :: xs => decide (x = Str.ofString c) && glB sc x && okName x && namesB sc cs xs
  | _, _ => false
def varE (N : List Str) (sc : Scope) (i : Nat) : Expr → Bool
  | .Name n _ => decide (N[i]? = some n) && visB sc n && okName n
  | _ => false
def ckBX (N : List Str) (sc : Scope) (i : Nat) : BX → Expr → Bool
  | .isC c, .Call (.Name f _) [v, .Name x _] [] _ => decide (f = ("isinstance" : Str)) && glB sc f && varE N sc i v && decide (x = Str.ofString c) && glB sc x && okName x
  | .isV, .Call (.Name f _) [v, .Name x _] [] _ => decide (f = ("isinstance" : Str)) && glB sc f && varE N sc i v && decide (x = ("ValueError" : Str)) && glB sc x
  | .isT cs, .Call (.Name f _) [v, .Tuple xs _ _] [] _ => decide (f = ("isinstance" : Str)) && glB sc f && varE N sc i v && namesB sc cs xs && decide (cs.length ≤ 100)
  | .nt b, .UnaryOp .Not x _ => ckBX N sc i b x
  | .orr a b, .BoolOp .Or (x :: y :: r) p => ckBX N sc i a x && (match r with
    | [] => ckBX N sc i b y
    | z :: r => isOr b && ckBX N sc i b (.BoolOp .Or (y :: z :: r) p))
  | .eqq a b, .Compare x [.Eq] [y] _ => ckBX N sc i a x && ckBX N sc i b y
  | .call g, .Call (.Name f _) [v] [] _ => decide (f = Str.ofString g) && glB sc f && okName f && varE N sc i v
  | _, _ => false
where isOr : BX → Bool
  | .orr _ _ => true
  | _ => false
/-- what is known where the questions are asked -/
structure HX (X : Cx) (N : List Str) (sc : Scope) (D : Addr) (a : Addr) (oe : Obj) (tab ct : String → Bool) (used : List String) (fs : List String) : Prop where
  C : ExcC X.K D
  eN : X.N = N
  esc : X.env.scope = sc
  pn : (a, oe) ∈ X.pn
  zc : Zc (.ref D) none oe
  fl : ∃ vs, oe.data = .fields vs
  hot : Hot1 X.A (a, oe)
  isi : X.mg ("isinstance" : Str) = none
  gl : ∀ z, glB sc z = true → Gl X z
  cls : ∀ c ∈ used, ∃ B, X.mg (Str.ofString c) = some (.ref B) ∧ PySem.W.kitOne X.K (.ref D) (.ref B) = some (tab c)
  vm : X.mg ("ValueError" : Str) = none
  vk : PySem.W.kitOne X.K (.ref D) (.type "ValueError") = some true
  fns : ∀ g ∈ fs, ∃ (f : Addr) (fd : FuncData) (ps : List Str) (k : Nat), FnP X.prog X.w X.K X.mg X.base CX0 k f fd ps (fun p vs H Q E => ps.length = 1 ∧ vs = [.ref p.1] ∧ Zc (.ref D) none p.2 ∧ ∀ H1, Gw H H1 → Q (.bl (ct g)) H1) ∧ RoomH k X.A ∧ X.mg (Str.ofString g) = some (.ref f) ∧ PySem.W.keepIn X.K (.ref f) = true ∧ Binds X.K fd ps [] ∧ ps.length = 1
def usedB : BX → List String
  | .isC c => [c]
  | .isV => []
  | .isT cs => cs
  | .nt b => usedB b
  | .orr a b => usedB a ++ usedB b
  | .eqq a b => usedB a ++ usedB b
  | .call _ => []
def fnsB : BX → List String
  | .nt b => fnsB b
  | .orr a b => fnsB a ++ fnsB b
  | .eqq a b => fnsB a ++ fnsB b
  | .call f => [f]
  | _ => []
def tBe (i : Nat) (a : Addr) (b : Bool) : TE := fun σ H Q => σ[i]? = some (some (.ref a)) ∧ ∀ H1, Gw H H1 → Q (.bl b) H1
def tBt (i : Nat) (a : Addr) (b : Bool) : TT := fun σ H Q => σ[i]? = some (some (.ref a)) ∧ ∀ H1, Gw H H1 → Q b H1
section
variable {X : Cx} {N : List Str} {sc : Scope} {D a : Addr} {oe : Obj} {tab ct : String → Bool} {used fs : List String} {i : Nat}
theorem var_of (h : HX X N sc D a oe tab ct used fs) {v : Expr} (hv : varE N sc i v = true) : PE X v (fun σ H Q => σ[i]? = some (some (.ref a)) ∧ Q (.ref a) H) ∧ ∃ n p, v = .Name n p := by
  unfold varE at hv
  split at hv
  · rename_i n p
    obtain ⟨hv, h3⟩ := and2 hv
    obtain ⟨h1, h2⟩ := and2 hv
    refine ⟨(pe_var (X := X) (i := i) (by rw [h.eN]; exact of_decide_eq_true h1) (by rw [h.esc]; exact vis_of h2) (okName_of h3).1 (okName_of h3).2).of fun σ H Q ⟨h0, q⟩ => ⟨_, h0, q⟩, n, p, rfl⟩
  · cases hv
theorem names_of (h : HX X N sc D a oe tab ct used fs) : ∀ {cs : List String} {xs : List Expr}, namesB sc cs xs = true → (∀ c ∈ cs, c ∈ used) → ∃ (vs : List V) (us : List Value), PA X xs (fun σ H Q => Q vs H) ∧ Paired ClsV vs us ∧ PySem.W.kitAny X.K (.ref D) us = some (cs.any tab) ∧ vs.length = cs.length
  | [], [], _, _ => ⟨[], [], pa_nil, .nil, rfl, rfl⟩
  | [], _ :: _, hn, _ => absurd hn Bool.false_ne_true
  | c :: cs, [], hn, _ => absurd hn Bool.false_ne_true
  | c :: cs, x :: xs, hn, hu => by
    unfold namesB at hn
    split at hn
    · rename_i heq; cases heq
    · rename_i c' cs' y p xs' h1 h2
      cases h1
      cases h2
      obtain ⟨hn, g4⟩ := and2 hn
      obtain ⟨hn, g3⟩ := and2 hn
      obtain ⟨g1, g2⟩ := and2 hn
      obtain rfl := of_decide_eq_true g1
      obtain ⟨vs, us, k1, k2, k3, k4⟩ := names_of h g4 fun c hc => hu c (List.mem_cons_of_mem _ hc)
      obtain ⟨B, m1, m2⟩ := h.cls c (hu c List.mem_cons_self)
      refine ⟨.ref B :: vs, .ref B :: us, (pa_cons (pe_glob (v := .ref B) (h.gl _ g2) m1 rfl (okName_of g3).1) k1).of fun σ H Q q => ?_, .cons (.own B) k2, ?_, by simp [k4]⟩
      · exact q
      · unfold PySem.W.kitAny
        rw [m2]
        cases q : tab c with
        | true => simp [q]
        | false => simp [q, k3]
    · cases hn
theorem pw_of {e : Expr} {t t' : TT} (h : PW X e t) (k : ∀ σ H Q, t' σ H Q → t σ H Q) : PW X e t' := ⟨fun wh pins s σ H Q I q => h.run wh pins s σ H Q I (k _ _ _ q)⟩
theorem pt_be {x : Expr} {b : Bool} (h : PE X x (tBe i a b)) (hp : plainT x = true) : PT X x (tBt i a b) :=
  (pt_val h (fun w => plainT_of hp w)).of fun σ H Q ⟨h0, q⟩ => ⟨h0, fun H1 g => ⟨b, rfl, q H1 g⟩⟩
theorem mk3 {x : Expr} {b : Bool} {B : BX} (hB : ckBX.isOr B = false) (hp : plainT x = true) (e1 : PE X x (tBe i a b)) : PE X x (tBe i a b) ∧ PT X x (tBt i a b) ∧ (ckBX.isOr B = true → PW X x (tBt i a b)) :=
  ⟨e1, pt_be e1 hp, fun z => by rw [hB] at z; cases z⟩
theorem sBX (h : HX X N sc D a oe tab ct used fs) : ∀ (b : BX) (x : Expr), ckBX N sc i b x = true → (∀ c ∈ usedB b, c ∈ used) → (∀ g ∈ fnsB b, g ∈ fs) →
    PE X x (tBe i a (bev tab ct b)) ∧ PT X x (tBt i a (bev tab ct b)) ∧ (ckBX.isOr b = true → PW X x (tBt i a (bev tab ct b)))
  | .isC c, x, hk, hu, hf => by
    unfold ckBX at hk
    split at hk <;> first | (exact absurd hk Bool.false_ne_true) | skip
    all_goals (rename_i heq; cases heq)
    obtain ⟨hk, k6⟩ := and2 hk
    obtain ⟨hk, k5⟩ := and2 hk
    obtain ⟨hk, k4⟩ := and2 hk
    obtain ⟨hk, k3⟩ := and2 hk
    obtain ⟨k1, k2⟩ := and2 hk
    obtain rfl := of_decide_eq_true k1
    obtain rfl := of_decide_eq_true k4
    obtain ⟨B, m1, m2⟩ := h.cls c (hu c List.mem_cons_self)
    obtain ⟨hv, n, p, rfl⟩ := var_of h k3
    refine mk3 rfl rfl ?_
    exact (pe_callB (call_isP h.C h.pn h.zc h.fl) (h.gl _ k2) h.isi (by decide +kernel) (pa_cons hv (pa_cons (pe_glob (v := .ref B) (h.gl _ k5) m1 rfl (okName_of k6).1) pa_nil) (star_cons rfl)) (by decide) (by decide) (star_cons rfl)).of fun σ H Q ⟨h0, q⟩ => ⟨h0, .ref B, .ref B, tab c, rfl, fun u ru => ru, m2, q H (.refl H)⟩
  | .isV, x, hk, hu, hf => by
    unfold ckBX at hk
    split at hk <;> first | (exact absurd hk Bool.false_ne_true) | skip
    all_goals (rename_i heq; cases heq)
    obtain ⟨hk, k5⟩ := and2 hk
    obtain ⟨hk, k4⟩ := and2 hk
    obtain ⟨hk, k3⟩ := and2 hk
    obtain ⟨k1, k2⟩ := and2 hk
    obtain rfl := of_decide_eq_true k1
    obtain rfl := of_decide_eq_true k4
    obtain ⟨hv, n, p, rfl⟩ := var_of h k3
    refine mk3 rfl rfl ?_
    exact (pe_callB (call_isP h.C h.pn h.zc h.fl) (h.gl _ k2) h.isi (by decide +kernel) (pa_cons hv (pa_cons (pe_bltn (v := .ty "ValueError") (u := .type "ValueError") (h.gl _ k5) h.vm (by decide +kernel) rfl (by decide) (by decide)) pa_nil) (star_cons rfl)) (by decide) (by decide) (star_cons rfl)).of fun σ H Q ⟨h0, q⟩ => ⟨h0, .ty "ValueError", .type "ValueError", true, rfl, fun u ru => ru, h.vk, q H (.refl H)⟩
  | .isT cs, x, hk, hu, hf => by
    unfold ckBX at hk
    split at hk <;> first | (exact absurd hk Bool.false_ne_true) | skip
    all_goals (rename_i heq; cases heq)
    obtain ⟨hk, k5⟩ := and2 hk
    obtain ⟨hk, k4⟩ := and2 hk
    obtain ⟨hk, k3⟩ := and2 hk
    obtain ⟨k1, k2⟩ := and2 hk
    have k5 := of_decide_eq_true k5
    obtain rfl := of_decide_eq_true k1
    obtain ⟨hv, n, p, rfl⟩ := var_of h k3
    obtain ⟨vs, us, n1, n2, n3, n4⟩ := names_of h k4 hu
    have hsz : vs.length < sizeLine := small1000 (by omega)
    refine mk3 rfl rfl ?_
    exact (pe_callB (call_isPT h.C h.pn h.zc h.fl) (h.gl _ k2) h.isi (by decide +kernel) (pa_cons hv (pa_cons (pe_tup n1) pa_nil) (star_cons rfl)) (by decide) (by decide) (star_cons rfl)).of fun σ H Q ⟨h0, q⟩ => ⟨h0, Nat.le_of_lt hsz, fun T hT => ⟨T, vs, us, _, rfl, upd_same, n2, n3, q _ (.new (.refl H) hT)⟩⟩
  | .nt b, x, hk, hu, hf => by
    unfold ckBX at hk
    split at hk <;> first | (exact absurd hk Bool.false_ne_true) | skip
    all_goals (rename_i heq; cases heq)
    obtain ⟨e1, e2, _⟩ := sBX h b _ hk hu hf
    refine ⟨(pe_not e1).of fun σ H Q ⟨h0, q⟩ => ⟨h0, fun H1 g => ⟨_, rfl, q H1 g⟩⟩, (pt_not e2).of fun σ H Q ⟨h0, q⟩ => ⟨h0, fun H1 g => q H1 g⟩, fun z => nomatch z⟩
  | .orr b1 b2, x, hk, hu, hf => by
    unfold ckBX at hk
    split at hk <;> first | (exact absurd hk Bool.false_ne_true) | skip
    all_goals (rename_i heq; cases heq)
    obtain ⟨hk, hk2⟩ := and2 hk
    obtain ⟨e1, e2, _⟩ := sBX h b1 _ hk (fun c hc => hu c (List.mem_append_left _ hc)) (fun c hc => hf c (List.mem_append_left _ hc))
    have key : ∀ {x y : Expr} {r : List Expr} {p : Pos}, PE X x (tBe i a (bev tab ct b1)) → PT X x (tBt i a (bev tab ct b1)) → PE X (.BoolOp .Or (y :: r) p) (tBe i a (bev tab ct b2)) → PW X (.BoolOp .Or (y :: r) p) (tBt i a (bev tab ct b2)) →
        PE X (.BoolOp .Or (x :: y :: r) p) (tBe i a (bev tab ct b1 || bev tab ct b2)) ∧ PW X (.BoolOp .Or (x :: y :: r) p) (tBt i a (bev tab ct b1 || bev tab ct b2)) := fun {x y r p} f1 f2 f3 f4 => by
      generalize bev tab ct b1 = u at *
      generalize bev tab ct b2 = v at *
      refine ⟨(pe_or f1 f3).of fun σ H Q ⟨h0, q⟩ => ⟨h0, fun H1 g => ⟨u, rfl, ?_⟩⟩, pw_of (pw_or f2 f4) fun σ H Q ⟨h0, q⟩ => ⟨h0, fun H1 g => ?_⟩⟩
      · cases u with
        | true => exact q H1 g
        | false => exact ⟨h0, fun H2 g2 => q H2 (g.trans g2)⟩
      · cases u with
        | true => exact q H1 g
        | false => exact ⟨h0, fun H2 g2 => q H2 (g.trans g2)⟩
    split at hk2
    · obtain ⟨f1, f2, _⟩ := sBX h b2 _ hk2 (fun c hc => hu c (List.mem_append_right _ hc)) (fun c hc => hf c (List.mem_append_right _ hc))
      obtain ⟨g1, g2⟩ := key e1 e2 (pe_one f1) (pw_or1 f2)
      exact ⟨g1, g2.pt, fun _ => g2⟩
    · obtain ⟨k1, k2⟩ := and2 hk2
      obtain ⟨f1, _, f3⟩ := sBX h b2 _ k2 (fun c hc => hu c (List.mem_append_right _ hc)) (fun c hc => hf c (List.mem_append_right _ hc))
      obtain ⟨g1, g2⟩ := key e1 e2 f1 (f3 k1)
      exact ⟨g1, g2.pt, fun _ => g2⟩
  | .eqq b1 b2, x, hk, hu, hf => by
    unfold ckBX at hk
    split at hk <;> first | (exact absurd hk Bool.false_ne_true) | skip
    all_goals (rename_i heq; cases heq)
    obtain ⟨hk, hk2⟩ := and2 hk
    obtain ⟨e1, _, _⟩ := sBX h b1 _ hk (fun c hc => hu c (List.mem_append_left _ hc)) (fun c hc => hf c (List.mem_append_left _ hc))
    obtain ⟨f1, _, _⟩ := sBX h b2 _ hk2 (fun c hc => hu c (List.mem_append_right _ hc)) (fun c hc => hf c (List.mem_append_right _ hc))
    refine ⟨(pe_cmpR op_eq e1 f1 (nomark _)).of fun σ H Q ⟨h0, q⟩ => ?_, (pt_cmpR op_eq e1 f1 (nomark _)).of fun σ H Q ⟨h0, q⟩ => ?_, fun z => nomatch z⟩
    · refine ⟨h0, fun H1 g => ⟨h0, fun H2 g2 => ⟨rfl, ?_⟩⟩⟩
      rw [dec_bl]
      exact q H2 (g.trans g2)
    · refine ⟨h0, fun H1 g => ⟨h0, fun H2 g2 => ⟨rfl, ?_⟩⟩⟩
      refine ⟨_, rfl, ?_⟩
      rw [dec_bl]
      exact q H2 (g.trans g2)
  | .call g, x, hk, hu, hf => by
    unfold ckBX at hk
    split at hk <;> first | (exact absurd hk Bool.false_ne_true) | skip
    all_goals (rename_i heq; cases heq)
    obtain ⟨hk, k4⟩ := and2 hk
    obtain ⟨hk, k3⟩ := and2 hk
    obtain ⟨k1, k2⟩ := and2 hk
    obtain rfl := of_decide_eq_true k1
    obtain ⟨hv, n, p, rfl⟩ := var_of h k4
    obtain ⟨f, fd, ps, k, F, hr, hm, hkp, hb, hl⟩ := h.fns g (hf g List.mem_cons_self)
    refine mk3 rfl rfl ?_
    exact (pe_callP F hr h.hot h.pn (h.gl _ k2) hm hkp hb (pa_cons hv pa_nil (star_cons rfl)) (okName_of k3).1 (star_cons rfl)).of fun σ H Q ⟨h0, q⟩ => ⟨h0, hl, rfl, h.zc, fun H1 g1 => q H1 g1⟩
/-- return 'x' if question else None, the question answered by no -/
def hdA (N : List Str) (sc : Scope) (i : Nat) (b : BX) : List Stmt → Bool
  | [.Return (some (.IfExp c (.Constant (.str _) _ _) (.Constant .none _ _) _)) _] => ckBX N sc i b c
  | _ => false
theorem run_hdA (h : HX X N sc D a oe tab ct used fs) {b : BX} {suite : List Stmt} (hk : hdA N sc i b suite = true) (hu : ∀ c ∈ usedB b, c ∈ used) (hf : ∀ g ∈ fnsB b, g ∈ fs) (hb : bev tab ct b = false) :
    PSs X suite (fun D σ H => σ[i]? = some (some (.ref a)) ∧ ∀ H1, Gw H H1 → D.rt .non H1) := by
  unfold hdA at hk
  split at hk
  · obtain ⟨_, e2, _⟩ := sBX h b _ hk hu hf
    rw [hb] at e2
    refine ⟨fun pins s σ H D I ⟨h0, q⟩ => (pss_one (ps_ret (pe_ifExp e2 pe_str pe_non))).run pins s σ H D I ?_⟩
    exact ⟨h0, fun H1 g => q H1 g⟩
  · cases hk
/-- if question: return 'x'; return ['a', 'b'][int(question)]; the first question answered by no -/
def hdB (N : List Str) (sc : Scope) (i : Nat) (b q : BX) (s0 s1 : Str) : List Stmt → Bool
  | [.If c [.Return (some (.Constant (.str _) _ _)) _] [] _, .Return (some (.Subscript (.List [.Constant (.str x0) _ _, .Constant (.str x1) _ _] _) (.Call (.Name f _) [y] [] _) _)) _] => ckBX N sc i b c && ckBX N sc i q y && decide (x0 = s0) && decide (x1 = s1) && decide (f = ("int" : Str)) && glB sc f && notStar y
  | _ => false
theorem Gw.ex {H H1 : Hp} (g : Gw H H1) : Ex H H1 := by
  induction g with
  | refl => exact Ex.refl _
  | new g hn ih => exact ih.trans (Ex.new hn)
theorem run_hdB (h : HX X N sc D a oe tab ct used fs) (hmi : X.mg ("int" : Str) = none) (hun : X.A.units + 64 < cLine) {b q : BX} {s0 s1 : Str} {suite : List Stmt} (hk : hdB N sc i b q s0 s1 suite = true) (hu : ∀ c ∈ usedB b, c ∈ used) (hf : ∀ g ∈ fnsB b, g ∈ fs) (hu2 : ∀ c ∈ usedB q, c ∈ used) (hf2 : ∀ g ∈ fnsB q, g ∈ fs) (hb : bev tab ct b = false) :
    PSs X suite (fun D σ H => σ[i]? = some (some (.ref a)) ∧ ∀ H1, Gw H H1 → D.rt (.str (if bev tab ct q = true then s1 else s0)) H1) := by
  unfold hdB at hk
  split at hk
  · rename_i c _ _ _ _ _ x0 _ _ x1 _ _ _ f _ y _ _ _
    obtain ⟨hk, k7⟩ := and2 hk
    obtain ⟨hk, k6⟩ := and2 hk
    obtain ⟨hk, k5⟩ := and2 hk
    obtain ⟨hk, k4⟩ := and2 hk
    obtain ⟨hk, k3⟩ := and2 hk
    obtain ⟨k1, k2⟩ := and2 hk
    obtain rfl := of_decide_eq_true k3
    obtain rfl := of_decide_eq_true k4
    obtain rfl := of_decide_eq_true k5
    obtain ⟨_, e2, _⟩ := sBX h b _ k1 hu hf
    obtain ⟨f1, _, _⟩ := sBX h q _ k2 hu2 hf2
    rw [hb] at e2
    have hi : ∀ p1 p2, PE X (.Call (.Name (Str.ofString "int") p1) [y] [] p2) _ := fun p1 p2 => pe_callTy (call_int1 (X := X)) (h.gl _ k6) hmi (by decide +kernel) (pa_cons f1 pa_nil (star_cons k7)) (by decide) (by decide) (star_cons k7)
    refine ⟨fun pins s σ H D I ⟨h0, qq⟩ => (pss_cons (ps_if e2 (pss_one (ps_ret pe_str)) pss_nil) (pss_one (ps_ret (pe_ix (oi_all hun) (pe_lst (pa_cons (pe_str (x := x0)) (pa_cons (pe_str (x := x1)) pa_nil (star_cons rfl)) (star_cons rfl))) (hi _ _) (plainIx_of rfl))))).run pins s σ H D I ?_⟩
    refine ⟨h0, fun H1 g => ?_⟩
    dsimp only
    rw [if_neg Bool.false_ne_true]
    refine ⟨by rw [sizeLine_eq]; exact (by decide : 2 ≤ 16777216), fun p hp => ?_⟩
    refine ⟨h0, fun H2 g2 => .inr ⟨_, rfl, ?_⟩⟩
    have hp2 : H2 p = some (.lst [.str x0, .str x1]) := g2.ex p _ upd_same
    have gw : Gw H H2 := (Gw.new g hp).trans g2
    refine ⟨H2, .list [.str x0, .str x1], .int (if bev tab ct q = true then 1 else 0), .str (if bev tab ct q = true then x1 else x0), Ex.refl H2, .inl (.lst (.inl (.inl hp2)) (.cons (.str _) (.cons (.str _) .nil))), .inl (.int _), ?_, fun v hv => ?_⟩
    · cases bev tab ct q <;> rfl
    · cases hv
      exact qq H2 gw
  · cases hk
end
section
variable {P : Program} {w : World} {K : Frag} {mg : Str → Option Value} {base : Heap} {cl : Cl} {cv : String → Value} {D : Addr} {tab ct : String → Bool}
/-- what the questions ask of the program: the class D, the other classes -/
structure QF (K : Frag) (mg : Str → Option Value) (D : Addr) (tab : String → Bool) (used : List String) : Prop where
  C : ExcC K D
  isi : mg ("isinstance" : Str) = none
  cls : ∀ c ∈ used, ∃ B, mg (Str.ofString c) = some (.ref B) ∧ PySem.W.kitOne K (.ref D) (.ref B) = some (tab c)
  vm : mg ("ValueError" : Str) = none
  vk : PySem.W.kitOne K (.ref D) (.type "ValueError") = some true
abbrev spQ (D : Addr) (ps : List Str) (b : Bool) : Addr × Obj → Sp := fun p vs H Q E => ps.length = 1 ∧ vs = [.ref p.1] ∧ Zc (.ref D) none p.2 ∧ ∀ H1, Gw H H1 → Q (.bl b) H1
/-- a def that asks an exception of D -/
def AskOk (P : Program) (w : World) (K : Frag) (mg : Str → Option Value) (base : Heap) (D : Addr) (k : Nat) (g : String) (b : Bool) : Prop := ∃ (f : Addr) (fd : FuncData) (ps : List Str) (j : Nat), FnP P w K mg base CX0 j f fd ps (spQ D ps b) ∧ j ≤ k ∧ mg (Str.ofString g) = some (.ref f) ∧ PySem.W.keepIn K (.ref f) = true ∧ Binds K fd ps [] ∧ ps.length = 1
theorem AskOk.mono {j k : Nat} {g : String} {b : Bool} (h : AskOk P w K mg base D j g b) (e : j ≤ k) : AskOk P w K mg base D k g b := by
  obtain ⟨f, fd, ps, i, F, h1, h2⟩ := h
  exact ⟨f, fd, ps, i, F, Nat.le_trans h1 e, h2⟩
def askB (N : List Str) (sc : Scope) (b : BX) : List Stmt → Bool
  | [.Return (some x) _] => ckBX N sc 0 b x
  | _ => false
theorem def_ask {x qual : Str} {g : String} {st : Stmt} {f : Addr} {fd : FuncData} {N ps : List Str} {b : BX} {used : List String} (Fu : Fun K x qual st f fd) (hb : Binds K fd ps []) (hm : mg (Str.ofString g) = some (.ref f)) (S : FnScope N ps (defScope st)) (q : QF K mg D tab used)
    (hck : askB N (defScope st) b (defBody st) = true) (hl : ps.length = 1) (hu : ∀ c ∈ usedB b, c ∈ used) (hf : fnsB b = []) (hN : 0 < N.length) : AskOk P w K mg base D 1 g (bev tab ct b) := by
  refine ⟨f, fd, ps, 1, ?_, Nat.le_refl _, hm, Fu.kp, hb, hl⟩
  obtain ⟨oc, od, kV, doc, pm, an, cdv, ct', osl, rfl, lk, hcd⟩ := Fu.ex
  refine fn_ofP lk hcd S (fun p vs H Q E h => by rw [h.2.1, h.1]; rfl) fun A outer s H vs Q E p hot hr ⟨h1, h2, h3, h4⟩ => ?_
  subst h2
  unfold askB at hck
  split at hck
  · rename_i y pos heq
    have hx : HX (cxH CX0 P w K mg base N qual (defScope st) f cdv A outer s H E p) N (defScope st) D p.1 p.2 tab ct used [] := by
      refine ⟨q.C, rfl, rfl, List.mem_cons_self, h3, ?_, hot, q.isi, fun z hz => ?_, q.cls, q.vm, q.vk, fun g hg => absurd hg (List.not_mem_nil)⟩
      · obtain ⟨_, v, e, _⟩ := hot
        exact ⟨v, e⟩
      · show Gl _ _
        unfold Gl Env.kindOf
        exact of_decide_eq_true hz
    obtain ⟨e1, _, _⟩ := sBX hx b y hck hu (fun g hg => by rw [hf] at hg; exact hg)
    rw [heq]
    refine ⟨_, pss_one (ps_ret e1), ?_, fun H1 g => h4 H1 g⟩
    unfold L2.start
    simp
  · cases hck
/-- try: .. except y as n: return 'x' if question else None -/
def tryCkH (N : List Str) (sc : Scope) (body : Ss) (y n : Str) (i : Nat) (b : BX) : List Stmt → Bool
  | [.Try tb [.ExceptHandler (some (.Name y' _)) (some n') (s0 :: suite) _] [] [] _] => decide (y' = y) && decide (n' = n) && decide (N[i]? = some n) && decide (sc.names.lookup n = some .local) && glB sc y && okName y && hdA N sc i b (s0 :: suite) && ckSs N sc body tb
  | _ => false
theorem def_tryH {x y n qual : Str} {nm c0 : String} {st : Stmt} {f Cy : Addr} {fd : FuncData} {N ps : List Str} {k fu i : Nat} {body : Ss} {b : BX} {used fs : List String}
    (Fu : Fun K x qual st f fd) (hb : Binds K fd ps []) (hm : mg (Str.ofString nm) = some (.ref f)) (S : FnScope N ps (defScope st)) (en : Env1 P w K mg base cl cv k)
    (hck : tryCkH N (defScope st) body y n i b (defBody st) = true) (hy : mg y = some (.ref Cy)) (hD : cv c0 = .ref D) (hex : PySem.W.exmOne K (.ref D) (.ref Cy) = some true)
    (q : QF K mg D tab used) (hu : ∀ c ∈ usedB b, c ∈ used) (hf : ∀ g ∈ fnsB b, g ∈ fs) (hbe : bev tab ct b = false) (hfs : ∀ g ∈ fs, AskOk P w K mg base D k g (ct g))
    (hrs : ∀ c ∈ rsSs body, RaiseOk K mg c (cv c) := by intro c hc; exact absurd hc (List.not_mem_nil (a := c))) (hgm : ∀ c ∈ cstTab, Str.ofString c.2.1 ∈ N → ∃ v u, mg (Str.ofString c.1) = some u ∧ RelV v u ∧ ∀ F, Dp K F v c.2.2 := by intro c hc hm; exact absurd hm (by revert c; decide +kernel)) :
    Has P w K mg base cv (k + 1) nm (fnT (fun s => if s = c0 then some .none else none) (fnB cl fu N.length ps.length body)) := by
  refine ⟨f, fd, ps, k + 1, ?_, Nat.le_refl _, hm, Fu.kp, hb, fun as z e => ?_⟩
  · unfold tryCkH at hck
    split at hck
    · rename_i tb y' p1 n' s0 suite p2 p3 heq
      obtain ⟨hck, h8⟩ := and2 hck
      obtain ⟨hck, h7⟩ := and2 hck
      obtain ⟨hck, h6⟩ := and2 hck
      obtain ⟨hck, h5⟩ := and2 hck
      obtain ⟨hck, h4⟩ := and2 hck
      obtain ⟨hck, h3⟩ := and2 hck
      obtain ⟨h1, h2⟩ := and2 hck
      obtain rfl := of_decide_eq_true h1
      obtain rfl := of_decide_eq_true h2
      refine try_ok (i := i) (c := .ref Cy) Fu S en heq (of_decide_eq_true h3) (of_decide_eq_true h4) h8 hrs hgm fun X eP ew eb eK emg eN esc hr hgl => ?_
      subst eP ew eb eK emg
      have hs : ∀ s d, (if s = c0 then some PyData.none else none) = some d → s = c0 ∧ d = .none := fun s d h => by
        split at h
        · cases h
          exact ⟨by assumption, rfl⟩
        · cases h
      refine ⟨⟨hgl _ h5, (okName_of h6).1, .inl hy⟩, fun s d h => ?_, fun s d h => ?_, fun s d h a oe pn hz hff => ?_⟩
      · rw [(hs s d h).2]
        rfl
      · rw [(hs s d h).1, hD]
        exact hex
      · obtain ⟨rfl, rfl⟩ := hs s d h
        rw [hD] at hz
        have hx : HX (X.suite a ((a, oe) :: pn)) N (defScope st) D a oe tab ct used fs := by
          refine ⟨q.C, eN, esc, List.mem_cons_self, hz.zc, hff, ?_, q.isi, fun z hzz => hgl z hzz, q.cls, q.vm, q.vk, fun g hg => ?_⟩
          · obtain ⟨v, e⟩ := hff
            exact ⟨rfl, v, e, hz.2.2 v e⟩
          · obtain ⟨f, fd, ps, j, F, hj, hm, hk, hb, hl⟩ := hfs g hg
            exact ⟨f, fd, ps, j, F, (show RoomH j (X.A.mark (some (.ref a))) from (⟨hr.dp, hr.un⟩ : RoomH k (X.A.mark (some (.ref a)))).mono hj), hm, hk, hb, hl⟩
        exact run_hdA hx h7 hu hf hbe
    · cases hck
  · have : ∃ z', fnB cl fu N.length ps.length body as = some z' := by
      unfold fnT at e
      split at e
      · exact ⟨_, by assumption⟩
      · exact ⟨_, e⟩
    obtain ⟨z', e'⟩ := this
    unfold fnB at e'
    split at e'
    · assumption
    · cases e'
/-- try: .. except y as n: if question: return 'x'; return ['a', 'b'][int(question)] -/
def tryCkI (N : List Str) (sc : Scope) (body : Ss) (y n : Str) (i : Nat) (b q : BX) (s0 s1 : Str) : List Stmt → Bool
  | [.Try tb [.ExceptHandler (some (.Name y' _)) (some n') (s0' :: suite) _] [] [] _] => decide (y' = y) && decide (n' = n) && decide (N[i]? = some n) && decide (sc.names.lookup n = some .local) && glB sc y && okName y && hdB N sc i b q s0 s1 (s0' :: suite) && ckSs N sc body tb
  | _ => false
theorem def_tryI {x y n qual : Str} {nm : String} {st : Stmt} {f Cy : Addr} {fd : FuncData} {N ps : List Str} {k fu i : Nat} {body : Ss} {b q : BX} {used fs : List String} {hs : String → Option PyData} {s0 s1 : Str}
    (Fu : Fun K x qual st f fd) (hb : Binds K fd ps []) (hm : mg (Str.ofString nm) = some (.ref f)) (S : FnScope N ps (defScope st)) (en : Env1 P w K mg base cl cv k)
    (hck : tryCkI N (defScope st) body y n i b q s0 s1 (defBody st) = true) (hy : mg y = some (.ref Cy)) (hmi : mg ("int" : Str) = none)
    (hcase : ∀ s d, hs s = some d → ∃ (D : Addr) (tab ct : String → Bool), cv s = .ref D ∧ PySem.W.exmOne K (.ref D) (.ref Cy) = some true ∧ QF K mg D tab used ∧ bev tab ct b = false ∧ d = .str (if bev tab ct q = true then s1 else s0) ∧ ∀ g ∈ fs, AskOk P w K mg base D k g (ct g))
    (hu : ∀ c ∈ usedB b, c ∈ used) (hf : ∀ g ∈ fnsB b, g ∈ fs) (hu2 : ∀ c ∈ usedB q, c ∈ used) (hf2 : ∀ g ∈ fnsB q, g ∈ fs)
    (hrs : ∀ c ∈ rsSs body, RaiseOk K mg c (cv c) := by intro c hc; exact absurd hc (List.not_mem_nil (a := c))) (hgm : ∀ c ∈ cstTab, Str.ofString c.2.1 ∈ N → ∃ v u, mg (Str.ofString c.1) = some u ∧ RelV v u ∧ ∀ F, Dp K F v c.2.2 := by intro c hc hm; exact absurd hm (by revert c; decide +kernel)) :
    Has P w K mg base cv (k + 1) nm (fnT hs (fnB cl fu N.length ps.length body)) := by
  refine ⟨f, fd, ps, k + 1, ?_, Nat.le_refl _, hm, Fu.kp, hb, fun as z e => ?_⟩
  · unfold tryCkI at hck
    split at hck
    · rename_i tb y' p1 n' s0' suite p2 p3 heq
      obtain ⟨hck, h8⟩ := and2 hck
      obtain ⟨hck, h7⟩ := and2 hck
      obtain ⟨hck, h6⟩ := and2 hck
      obtain ⟨hck, h5⟩ := and2 hck
      obtain ⟨hck, h4⟩ := and2 hck
      obtain ⟨hck, h3⟩ := and2 hck
      obtain ⟨h1, h2⟩ := and2 hck
      obtain rfl := of_decide_eq_true h1
      obtain rfl := of_decide_eq_true h2
      refine try_ok (i := i) (c := .ref Cy) Fu S en heq (of_decide_eq_true h3) (of_decide_eq_true h4) h8 hrs hgm fun X eP ew eb eK emg eN esc hr hgl => ?_
      subst eP ew eb eK emg
      refine ⟨⟨hgl _ h5, (okName_of h6).1, .inl hy⟩, fun s d h => ?_, fun s d h => ?_, fun s d h a oe pn hz hff => ?_⟩
      · obtain ⟨D, tab, ct, _, _, _, _, rfl, _⟩ := hcase s d h
        rfl
      · obtain ⟨D, tab, ct, e1, e2, _⟩ := hcase s d h
        rw [e1]
        exact e2
      · obtain ⟨D, tab, ct, e1, e2, qf, hbe, rfl, hfs⟩ := hcase s d h
        rw [e1] at hz
        have hx : HX (X.suite a ((a, oe) :: pn)) N (defScope st) D a oe tab ct used fs := by
          refine ⟨qf.C, eN, esc, List.mem_cons_self, hz.zc, hff, ?_, qf.isi, fun z hzz => hgl z hzz, qf.cls, qf.vm, qf.vk, fun g hg => ?_⟩
          · obtain ⟨v, e⟩ := hff
            exact ⟨rfl, v, e, hz.2.2 v e⟩
          · obtain ⟨f, fd, ps, j, F, hj, hm, hk, hb, hl⟩ := hfs g hg
            exact ⟨f, fd, ps, j, F, (show RoomH j (X.A.mark (some (.ref a))) from (⟨hr.dp, hr.un⟩ : RoomH k (X.A.mark (some (.ref a)))).mono hj), hm, hk, hb, hl⟩
        exact run_hdB hx hmi (by have := hr.un; show X.A.units + 64 < cLine; omega) h7 hu hf hu2 hf2 hbe
    · cases hck
  · have : ∃ z', fnB cl fu N.length ps.length body as = some z' := by
      unfold fnT at e
      split at e
      · exact ⟨_, by assumption⟩
      · exact ⟨_, e⟩
    obtain ⟨z', e'⟩ := this
    unfold fnB at e'
    split at e'
    · assumption
    · cases e'
end
end Rk

/-! Rk, part W: what an except suite computes of its exception's class. -/
namespace Rk
open PySem PySem.Spec PyProof.Rows L2
open L2H (RoomH Hot1 PinOk cxH inv_startH roomH_of)
inductive QE where
  | ask (b : BX)
  | asks (bs : List BX)
  | strs (ss : List Str)
  | lit (d : D)
  | var (j : Nat)
  | cat (a b : QE)
  | at (a b : QE)
  | toI (a : QE)
  | ife (c a b : QE)
  | cnt (a : QE)
  | fnd (a : QE)
  | ne (a b : QE)
  | orr (a b : QE)
  | andd (a b : QE)
  | nt (a : QE)
  | call (g : String)
def qBool : Option D → Option Bool
  | some (.bool b) => some b
  | _ => none
def qList : Option D → Option (List D)
  | some (.list b) => some b
  | _ => none
def qInt : Option D → Option Int
  | some (.int b) => some b
  | _ => none
def qev (tab ct : String → Bool) (cd : String → Option D) (ρ : List (Option D)) : QE → Option D
  | .ask b => some (.bool (bev tab ct b))
  | .asks bs => if decide (bs.length ≤ 100) then some (.list (bs.map fun b => .bool (bev tab ct b))) else none
  | .strs ss => if decide (ss.length ≤ 100) then some (.list (ss.map .str)) else none
  | .lit d => if immD d then some d else none
  | .var j => match ρ[j]? with
    | some (some d) => some d
    | _ => none
  | .cat a b => (qList (qev tab ct cd ρ a)).bind fun xs => (qList (qev tab ct cd ρ b)).bind fun ys => if lenOk (xs.length + ys.length) then some (.list (xs ++ ys)) else none
  | .at a b => (qList (qev tab ct cd ρ a)).bind fun xs => (qInt (qev tab ct cd ρ b)).bind fun i => L2.atI xs i
  | .toI a => (qBool (qev tab ct cd ρ a)).map fun b => .int (if b then 1 else 0)
  | .ife c a b => (qBool (qev tab ct cd ρ c)).bind fun k => (qev tab ct cd ρ a).bind fun u => (qev tab ct cd ρ b).map fun w => if k then u else w
  | .cnt a => (qList (qev tab ct cd ρ a)).bind fun xs => (boolsD xs).map fun bs => .int ((bs.countP id : Nat) : Int)
  | .fnd a => (qList (qev tab ct cd ρ a)).bind fun xs => (boolsD xs).bind fun bs => (findD (.bool true) (bs.map .bool) 0).map fun k => .int (k : Nat)
  | .ne a b => (qInt (qev tab ct cd ρ a)).bind fun i => (qInt (qev tab ct cd ρ b)).map fun j => .bool (!decide (i = j))
  | .orr a b => (qBool (qev tab ct cd ρ a)).bind fun k => (qBool (qev tab ct cd ρ b)).map fun j => .bool (k || j)
  | .andd a b => (qBool (qev tab ct cd ρ a)).bind fun k => (qBool (qev tab ct cd ρ b)).map fun j => .bool (k && j)
  | .nt a => (qBool (qev tab ct cd ρ a)).map fun b => .bool (!b)
  | .call g => cd g
def ckBXs (N : List Str) (sc : Scope) (i : Nat) : List BX → List Expr → Bool
  | [], [] => true
  | b :: bs, x :: xs => ckBX N sc i b x && notStar x && ckBXs N sc i bs xs
  | _, _ => false
def strsX : List Str → List Expr → Bool
  | [], [] => true
  | s :: ss, .Constant (.str t) _ _ :: xs => decide (s = t) && strsX ss xs
  | _, _ => false
def isOrQ : QE → Bool
  | .orr _ _ => true
  | _ => false
def isAndQ : QE → Bool
  | .andd _ _ => true
  | _ => false
def isIfe : QE → Bool
  | .ife _ _ _ => true
  | _ => false
def ckQ (N : List Str) (sc : Scope) (i : Nat) : QE → Expr → Bool
  | .ask b, x => ckBX N sc i b x
  | .asks bs, .List xs _ => ckBXs N sc i bs xs
  | .strs ss, .List xs _ => strsX ss xs
  | .lit d, .Constant c _ _ => litOk d c
  | .lit (.int k), .UnaryOp .USub (.Constant (.int j) _ _) _ => decide (k = -j)
  | .var j, x => varE N sc j x
  | .cat a b, .BinOp x .Add y _ => ckQ N sc i a x && ckQ N sc i b y
  | .at a b, .Subscript x y _ => nonSlice y && (ckQ N sc i a x && ckQ N sc i b y)
  | .toI a, .Call (.Name f _) [y] [] _ => decide (f = ("int" : Str)) && glB sc f && notStar y && ckQ N sc i a y
  | .ife c a b, .IfExp z x y _ => !isIfe c && (ckQ N sc i c z && (ckQ N sc i a x && ckQ N sc i b y))
  | .cnt a, .Call (.Attribute x n ap) [.Constant (.bool true) _ _] [] cp => decide (n = Str.ofString "count") && (ap.endLine == cp.line) && dotOk x && ckQ N sc i a x
  | .fnd a, .Call (.Attribute x n ap) [.Constant (.bool true) _ _] [] cp => decide (n = Str.ofString "index") && (ap.endLine == cp.line) && dotOk x && ckQ N sc i a x
  | .ne a b, .Compare x [.NotEq] [y] _ => notSet y && (ckQ N sc i a x && ckQ N sc i b y)
  | .orr a b, .BoolOp .Or (x :: y :: r) p => !isIfe a && ckQ N sc i a x && (match r with
    | [] => !isIfe b && ckQ N sc i b y
    | z :: r => isOrQ b && ckQ N sc i b (.BoolOp .Or (y :: z :: r) p))
  | .andd a b, .BoolOp .And (x :: y :: r) p => !isIfe a && ckQ N sc i a x && (match r with
    | [] => !isIfe b && ckQ N sc i b y
    | z :: r => isAndQ b && ckQ N sc i b (.BoolOp .And (y :: z :: r) p))
  | .nt a, .UnaryOp .Not x _ => !isIfe a && ckQ N sc i a x
  | .call g, .Call (.Name f _) [v] [] _ => decide (f = Str.ofString g) && glB sc f && okName f && varE N sc i v
  | _, _ => false
def usedQ : QE → List String
  | .ask b => usedB b
  | .asks bs => bs.flatMap usedB
  | .cat a b => usedQ a ++ usedQ b
  | .at a b => usedQ a ++ usedQ b
  | .toI a => usedQ a
  | .ife c a b => usedQ c ++ (usedQ a ++ usedQ b)
  | .cnt a => usedQ a
  | .fnd a => usedQ a
  | .ne a b => usedQ a ++ usedQ b
  | .orr a b => usedQ a ++ usedQ b
  | .andd a b => usedQ a ++ usedQ b
  | .nt a => usedQ a
  | _ => []
/-- no question of the old kind calls a def -/
def plainB : BX → Bool
  | .nt b => plainB b
  | .orr a b => plainB a && plainB b
  | .eqq a b => plainB a && plainB b
  | .call _ => false
  | _ => true
def plainQ : QE → Bool
  | .ask b => plainB b
  | .asks bs => bs.all plainB
  | .cat a b => plainQ a && plainQ b
  | .at a b => plainQ a && plainQ b
  | .toI a => plainQ a
  | .ife c a b => plainQ c && (plainQ a && plainQ b)
  | .cnt a => plainQ a
  | .fnd a => plainQ a
  | .ne a b => plainQ a && plainQ b
  | .orr a b => plainQ a && plainQ b
  | .andd a b => plainQ a && plainQ b
  | .nt a => plainQ a
  | _ => true
def callsQ : QE → List String
  | .cat a b => callsQ a ++ callsQ b
  | .at a b => callsQ a ++ callsQ b
  | .toI a => callsQ a
  | .ife c a b => callsQ c ++ (callsQ a ++ callsQ b)
  | .cnt a => callsQ a
  | .fnd a => callsQ a
  | .ne a b => callsQ a ++ callsQ b
  | .orr a b => callsQ a ++ callsQ b
  | .andd a b => callsQ a ++ callsQ b
  | .nt a => callsQ a
  | .call g => [g]
  | _ => []
theorem plainB_fns : ∀ {b : BX}, plainB b = true → fnsB b = []
  | .isC _, _ => rfl
  | .isV, _ => rfl
  | .isT _, _ => rfl
  | .nt b, h => plainB_fns (b := b) h
  | .orr a b, h => by
    obtain ⟨h1, h2⟩ := and2 (show (plainB a && plainB b) = true from h)
    show fnsB a ++ fnsB b = []
    rw [plainB_fns h1, plainB_fns h2]
    rfl
  | .eqq a b, h => by
    obtain ⟨h1, h2⟩ := and2 (show (plainB a && plainB b) = true from h)
    show fnsB a ++ fnsB b = []
    rw [plainB_fns h1, plainB_fns h2]
    rfl
  | .call _, h => absurd h Bool.false_ne_true
/-! ### values -/
def QR (H : Hp) (v : V) : D → Prop
  | .list xs => ∃ p, v = .ref p ∧ H p = some (.lst (xs.map vOf)) ∧ xs.all immD = true
  | d => immD d = true ∧ v = vOf d
theorem QR.ex {H H1 : Hp} {v : V} {d : D} (h : QR H v d) (e : Ex H H1) : QR H1 v d := by
  cases d with
  | list xs =>
    obtain ⟨p, h1, h2, h3⟩ := h
    exact ⟨p, h1, e _ _ h2, h3⟩
  | _ => exact h
theorem imms_dp {K : Frag} {F : Hp} : ∀ {xs : List D}, xs.all immD = true → DpAll K F (xs.map vOf) xs
  | [], _ => .nil
  | x :: xs, h => by
    rw [List.all_cons, Bool.and_eq_true] at h
    exact .cons (vOf_dp h.1) (imms_dp h.2)
theorem imm_v {K : Frag} {F : Hp} {v : V} {d : D} (h : Dp K F v d) (hd : immD d = true) : v = vOf d := by
  cases d with
  | none => cases h; rfl
  | bool _ => cases h; rfl
  | int _ => cases h; rfl
  | str _ => cases h; rfl
  | _ => cases hd
theorem imms_v {K : Frag} {F : Hp} : ∀ {xs : List D} {vs : List V}, DpAll K F vs xs → xs.all immD = true → vs = xs.map vOf
  | [], _, h, _ => by cases h; rfl
  | x :: xs, _, h, hd => by
    rw [List.all_cons, Bool.and_eq_true] at hd
    cases h with
    | cons h1 h2 => rw [imm_v h1 hd.1, imms_v h2 hd.2]; rfl
theorem QR.rf {K : Frag} {H : Hp} {v : V} {d : D} (h : QR H v d) : RF K H H v d := by
  cases d with
  | list xs =>
    obtain ⟨p, rfl, h2, h3⟩ := h
    exact .inl (.lst (.inl (.inl h2)) (imms_dp h3))
  | none => exact .inl (by rw [h.2]; exact vOf_dp h.1)
  | bool _ => exact .inl (by rw [h.2]; exact vOf_dp h.1)
  | int _ => exact .inl (by rw [h.2]; exact vOf_dp h.1)
  | str _ => exact .inl (by rw [h.2]; exact vOf_dp h.1)
  | _ => cases h.1
theorem QR.of_imm {H : Hp} {d : D} (h : immD d = true) : QR H (vOf d) d := by
  cases d with
  | list _ => cases h
  | _ => exact ⟨h, rfl⟩
theorem QR.imm {H : Hp} {v : V} {d : D} (h : QR H v d) (hd : immD d = true) : v = vOf d := by
  cases d with
  | list _ => cases hd
  | _ => exact h.2
def EnvQ (σ : St) (H : Hp) (ρ : List (Option D)) : Prop := ∀ (j : Nat) (d : D), ρ[j]? = some (some d) → ∃ v, σ[j]? = some (some v) ∧ QR H v d
theorem EnvQ.ex {σ : St} {H H1 : Hp} {ρ : List (Option D)} (h : EnvQ σ H ρ) (e : Ex H H1) : EnvQ σ H1 ρ := fun j d hj => by
  obtain ⟨v, h1, h2⟩ := h j d hj
  exact ⟨v, h1, h2.ex e⟩
def tQ (i : Nat) (a : Addr) (ρ : List (Option D)) (d : D) : TE := fun σ H Q => σ[i]? = some (some (.ref a)) ∧ EnvQ σ H ρ ∧ ∀ H1 v, Gw H H1 → QR H1 v d → Q v H1
def tQt (i : Nat) (a : Addr) (ρ : List (Option D)) (b : Bool) : TT := fun σ H Q => σ[i]? = some (some (.ref a)) ∧ EnvQ σ H ρ ∧ ∀ H1, Gw H H1 → Q b H1
/-- a list's count of True -/
theorem mtf_countT {X : Cx} : MtR X "list.count" (fun x xs H Q => ∃ (a : Addr) (bs : List Bool), x = V.ref a ∧ xs = [.bl true] ∧ SqL X.K H a (bs.map V.bl) ∧ Q (.int ((bs.countP id : Nat) : Int)) H) := by
  intro pins s σ H x xs v us Q I rx rxs hyp
  obtain ⟨a, bs, rfl, rfl, hq, q⟩ := hyp
  cases rx
  cases rxs with
  | cons rw1 rt =>
    cases rt
    cases rw1
    obtain ⟨its, rv, ⟨⟨cls, dd, data, sl⟩, n, ho, hc, hdn, hd⟩, hlen⟩ := I.list hq
    simp only at hc hd
    subst hc hd
    have fws : (bs.map V.bl).all flatV = true := List.all_eq_true.mpr fun x hx => by
      obtain ⟨b, _, rfl⟩ := List.mem_map.mp hx
      rfl
    refine call_meets PySem.F.slot_list_count ⟨_, ho, rfl⟩ PySem.F.entry_list_count (PySem.F.args_list_count_2 _ _)
      (SeqAt.list_countAt a its.toArray n dd sl (.bool true) (eqU (.bl true))) ⟨ho, fun y hy => mem_eqAt (show RelV (.bl true) (.bool true) from rfl) rfl rv fws y (by simpa using hy), ?_⟩
    have ec : ∀ {bs : List Bool} {its : List Value}, Vals (bs.map V.bl) its → its.countP (eqU (.bl true)) = bs.countP id := by
      intro bs
      induction bs with
      | nil => intro its h; cases h; rfl
      | cons b bs ih =>
        intro its h
        cases h with
        | cons h1 h2 =>
          cases h1
          rw [List.countP_cons, List.countP_cons, ih h2]
          congr 1
          cases b <;> rfl
    refine ⟨.int ((bs.countP id : Nat) : Int), H, I.tok _, ⟨s.toks, ?_⟩, q⟩
    show Value.int ((its.toArray.toList.countP (eqU (.bl true)) : Nat) : Int) s.toks = _
    rw [show its.toArray.toList = its from by simp, ec rv]
/-! ### the questions' answers -/
/-- what is known where a suite runs -/
structure HQ (X : Cx) (N : List Str) (sc : Scope) (D : Addr) (a : Addr) (oe : Obj) (tab ct : String → Bool) (cd : String → Option PyData) (used fs : List String) : Prop extends HX X N sc D a oe tab ct used [] where
  mi : X.mg ("int" : Str) = none
  un : X.A.units + 64 < cLine
  nd : X.N.Nodup
  cds : ∀ g ∈ fs, ∀ d, cd g = some d → immD d = true ∧ ∃ (f : Addr) (fd : FuncData) (ps : List Str) (k : Nat), FnP X.prog X.w X.K X.mg X.base CX0 k f fd ps (fun p vs H Q E => ps.length = 1 ∧ vs = [.ref p.1] ∧ Zc (.ref D) none p.2 ∧ ∀ H1, Gw H H1 → Q (vOf d) H1) ∧ RoomH k X.A ∧ X.mg (Str.ofString g) = some (.ref f) ∧ PySem.W.keepIn X.K (.ref f) = true ∧ Binds X.K fd ps [] ∧ ps.length = 1
section
variable {X : Cx} {N : List Str} {sc : Scope} {D adr : Addr} {oe : Obj} {tab ct : String → Bool} {cd : String → Option PyData} {used fs : List String} {i : Nat} {ρ : List (Option PyData)}
theorem qBool_some {o : Option PyData} {b : Bool} (h : qBool o = some b) : o = some (.bool b) := by
  unfold qBool at h
  split at h
  · cases h; rfl
  · cases h
theorem qList_some {o : Option PyData} {b : List PyData} (h : qList o = some b) : o = some (.list b) := by
  unfold qList at h
  split at h
  · cases h; rfl
  · cases h
theorem qInt_some {o : Option PyData} {b : Int} (h : qInt o = some b) : o = some (.int b) := by
  unfold qInt at h
  split at h
  · cases h; rfl
  · cases h
theorem pt_q {x : Expr} {b : Bool} (h : PE X x (tQ i adr ρ (.bool b))) (hp : plainT x = true) : PT X x (tQt i adr ρ b) :=
  (pt_val h (fun w => plainT_of hp w)).of fun σ H Q ⟨h0, he, q⟩ => ⟨h0, he, fun H1 v g hv => ⟨b, hv.2, q H1 g⟩⟩
theorem asks_pa (h : HQ X N sc D adr oe tab ct cd used fs) : ∀ {bs : List BX} {xs : List Expr}, ckBXs N sc i bs xs = true → (∀ c ∈ bs.flatMap usedB, c ∈ used) → bs.all plainB = true →
    PA X xs (fun σ H Q => σ[i]? = some (some (.ref adr)) ∧ ∀ H1, Gw H H1 → Q (bs.map fun b => .bl (bev tab ct b)) H1)
  | [], [], _, _, _ => pa_nil.of fun σ H Q ⟨_, q⟩ => q H (.refl H)
  | [], _ :: _, hk, _, _ => absurd hk Bool.false_ne_true
  | _ :: _, [], hk, _, _ => absurd hk Bool.false_ne_true
  | b :: bs, x :: xs, hk, hu, hp => by
    obtain ⟨hk, h3⟩ := and2 (show (ckBX N sc i b x && notStar x && ckBXs N sc i bs xs) = true from hk)
    obtain ⟨h1, h2⟩ := and2 hk
    rw [List.all_cons, Bool.and_eq_true] at hp
    obtain ⟨e1, _, _⟩ := sBX h.toHX b x h1 (fun c hc => hu c (by rw [List.flatMap_cons]; exact List.mem_append_left _ hc)) (fun g hg => by rw [plainB_fns hp.1] at hg; exact hg)
    have ih := asks_pa h h3 (fun c hc => hu c (by rw [List.flatMap_cons]; exact List.mem_append_right _ hc)) hp.2
    refine (pa_cons e1 ih (star_cons h2)).of fun σ H Q ⟨h0, q⟩ => ⟨h0, fun H1 g => ⟨h0, fun H2 g2 => ?_⟩⟩
    exact q H2 (g.trans g2)
theorem strs_pa : ∀ {ss : List Str} {xs : List Expr}, strsX ss xs = true → PA X xs (fun σ H Q => Q (ss.map V.str) H)
  | [], [], _ => pa_nil
  | [], _ :: _, hk => absurd hk Bool.false_ne_true
  | _ :: _, [], hk => absurd hk Bool.false_ne_true
  | s :: ss, x :: xs, hk => by
    unfold strsX at hk
    split at hk
    · rename_i heq; cases heq
    · rename_i s' ss' t _ _ xs' h1 h2
      cases h1
      cases h2
      obtain ⟨h1, h2⟩ := and2 hk
      obtain rfl := of_decide_eq_true h1
      exact (pa_cons pe_str (strs_pa h2) (star_cons rfl)).of fun σ H Q q => q
    · cases hk
theorem var_q (h : HQ X N sc D adr oe tab ct cd used fs) {j : Nat} {v : Expr} {d : PyData} (hv : varE N sc j v = true) (hd : ρ[j]? = some (some d)) : PE X v (tQ i adr ρ d) ∧ ∃ n p, v = .Name n p := by
  unfold varE at hv
  split at hv
  · rename_i n p
    obtain ⟨hv, h3⟩ := and2 hv
    obtain ⟨h1, h2⟩ := and2 hv
    refine ⟨(pe_var (X := X) (i := j) (by rw [h.eN]; exact of_decide_eq_true h1) (by rw [h.esc]; exact vis_of h2) (okName_of h3).1 (okName_of h3).2).of fun σ H Q ⟨h0, he, q⟩ => ?_, n, p, rfl⟩
    obtain ⟨w, hw, hr⟩ := he j d hd
    exact ⟨w, hw, q H w (.refl H) hr⟩
  · cases hv
theorem bools_imm : ∀ (bs : List Bool), (bs.map PyData.bool).all immD = true
  | [] => rfl
  | _ :: bs => by rw [List.map_cons, List.all_cons, bools_imm bs]; rfl
theorem bools_of : ∀ {xs : List PyData} {bs : List Bool}, boolsD xs = some bs → xs = bs.map PyData.bool
  | [], _, h => by cases h; rfl
  | .bool b :: r, _, h => by
    obtain ⟨ns, e1, rfl⟩ := Option.map_eq_some_iff.mp (show (boolsD r).map (b :: ·) = some _ from h)
    rw [bools_of e1]
    rfl
  | .none :: _, _, h => by cases h
  | .int _ :: _, _, h => by cases h
  | .str _ :: _, _, h => by cases h
  | .list _ :: _, _, h => by cases h
  | .tuple _ :: _, _, h => by cases h
  | .dict _ :: _, _, h => by cases h
def QOk (d : PyData) : Prop := (∀ xs, d = .list xs → xs.all immD = true) ∧ ∀ xs, d ≠ .tuple xs ∧ ∀ ys, d ≠ .dict ys
/-- what is shown of each -/
structure SQ (X : Cx) (i : Nat) (adr : Addr) (ρ : List (Option PyData)) (q : QE) (x : Expr) (d : PyData) : Prop where
  pe : PE X x (tQ i adr ρ d)
  ok : ∀ xs, d = .list xs → xs.all immD = true
  nt : ∀ xs, d ≠ .tuple xs ∧ ∀ ys, d ≠ .dict ys
  pt : ∀ b, d = .bool b → isIfe q = false → PT X x (tQt i adr ρ b)
  pw : ∀ b, d = .bool b → isOrQ q = true ∨ isAndQ q = true → PW X x (tQt i adr ρ b)
theorem SQ.plain {q : QE} {x : Expr} {d : PyData} (h : PE X x (tQ i adr ρ d)) (hp : plainT x = true) (hl : ∀ xs, d = .list xs → xs.all immD = true) (ht : ∀ xs, d ≠ .tuple xs ∧ ∀ ys, d ≠ .dict ys) (ho : isOrQ q = false) (ha : isAndQ q = false) : SQ X i adr ρ q x d :=
  ⟨h, hl, ht, fun b e _ => by subst e; exact pt_q h hp, fun b e z => by
    rcases z with z | z
    · rw [ho] at z; cases z
    · rw [ha] at z; cases z⟩
theorem imm_nt {d : PyData} (h : immD d = true) : (∀ xs, d = .list xs → xs.all immD = true) ∧ ∀ xs, d ≠ .tuple xs ∧ ∀ ys, d ≠ .dict ys := by
  cases d <;> first | (cases h; done) | exact ⟨fun xs e => (by cases e), fun xs => ⟨fun e => (by cases e), fun ys e => by cases e⟩⟩
theorem sQ (h : HQ X N sc D adr oe tab ct cd used fs) (hρ : ∀ (j : Nat) (d : PyData), ρ[j]? = some (some d) → QOk d) : ∀ (q : QE) (x : Expr) (d : PyData), ckQ N sc i q x = true → (∀ c ∈ usedQ q, c ∈ used) → plainQ q = true → (∀ g ∈ callsQ q, g ∈ fs) → qev tab ct cd ρ q = some d → SQ X i adr ρ q x d
  | .ask b, x, d, hk, hu, hp, _, hd => by
    cases hd
    have hk : ckBX N sc i b x = true := by unfold ckQ at hk; exact hk
    obtain ⟨e1, e2, e3⟩ := sBX h.toHX b x hk hu (fun g hg => by rw [plainB_fns hp] at hg; exact hg)
    refine ⟨e1.of fun σ H Q ⟨h0, _, q⟩ => ⟨h0, fun H1 g => q H1 _ g ⟨rfl, rfl⟩⟩, fun xs e => (by cases e), fun xs => ⟨fun e => (by cases e), fun ys e => by cases e⟩, fun b' e _ => ?_, fun b' _ z => by rcases z with z | z <;> cases z⟩
    cases e
    exact e2.of fun σ H Q ⟨h0, _, q⟩ => ⟨h0, q⟩
  | .asks bs, x, d, hk, hu, hp, _, hd => by
    unfold ckQ at hk
    split at hk <;> first | (exact absurd hk Bool.false_ne_true) | skip
    all_goals (rename_i heq; cases heq)
    obtain ⟨hl, rfl⟩ := some_if (show (if decide (bs.length ≤ 100) = true then some (PyData.list (bs.map fun b => .bool (bev tab ct b))) else none) = some d from hd)
    have hl := of_decide_eq_true hl
    have hi : (bs.map fun b => PyData.bool (bev tab ct b)).all immD = true := by
      have := bools_imm (bs.map fun b => bev tab ct b)
      rwa [List.map_map] at this
    refine SQ.plain ((pe_lst (asks_pa h hk hu hp)).of fun σ H Q ⟨h0, _, q⟩ => ⟨h0, fun H1 g => ⟨by rw [sizeLine_eq, List.length_map]; omega, fun p hp => ?_⟩⟩) rfl (fun xs e => by cases e; exact hi) (fun xs => ⟨fun e => (by cases e), fun ys e => by cases e⟩) rfl rfl
    refine q _ _ (.new g hp) ⟨p, rfl, ?_, hi⟩
    rw [upd_same, List.map_map]
    rfl
  | .strs ss, x, d, hk, hu, hp, _, hd => by
    unfold ckQ at hk
    split at hk <;> first | (exact absurd hk Bool.false_ne_true) | skip
    all_goals (rename_i heq; cases heq)
    obtain ⟨hl, rfl⟩ := some_if (show (if decide (ss.length ≤ 100) = true then some (PyData.list (ss.map .str)) else none) = some d from hd)
    have hl := of_decide_eq_true hl
    have hi : (ss.map PyData.str).all immD = true := List.all_eq_true.mpr fun x hx => by
      obtain ⟨_, _, rfl⟩ := List.mem_map.mp hx
      rfl
    refine SQ.plain ((pe_lst (strs_pa hk)).of fun σ H Q ⟨h0, _, q⟩ => ⟨by rw [sizeLine_eq, List.length_map]; omega, fun p hp => ?_⟩) rfl (fun xs e => by cases e; exact hi) (fun xs => ⟨fun e => (by cases e), fun ys e => by cases e⟩) rfl rfl
    refine q _ _ (.new (.refl H) hp) ⟨p, rfl, ?_, hi⟩
    rw [upd_same, List.map_map]
    rfl
  | .lit d0, x, d, hk, hu, hp, _, hd => by
    obtain ⟨hi, rfl⟩ := some_if (show (if immD d0 = true then some d0 else none) = some d from hd)
    obtain ⟨n1, n2⟩ := imm_nt hi
    unfold ckQ at hk
    split at hk <;> first | (exact absurd hk Bool.false_ne_true) | skip
    all_goals (rename_i heq; cases heq)
    · rename_i c j p
      refine SQ.plain ?_ rfl n1 n2 rfl rfl
      cases d0 with
      | none =>
        cases c with
        | none => exact pe_non.of fun σ H Q ⟨_, _, q⟩ => q H _ (.refl H) (QR.of_imm hi)
        | _ => cases hk
      | bool b =>
        cases c with
        | bool b' =>
          obtain rfl : b = b' := by simpa [litOk] using hk
          exact pe_bl.of fun σ H Q ⟨_, _, q⟩ => q H _ (.refl H) (QR.of_imm hi)
        | _ => cases hk
      | int b =>
        cases c with
        | int b' =>
          obtain rfl : b = b' := by simpa [litOk] using hk
          exact pe_int.of fun σ H Q ⟨_, _, q⟩ => q H _ (.refl H) (QR.of_imm hi)
        | _ => cases hk
      | str b =>
        cases c with
        | str b' =>
          obtain rfl : b = b' := by simpa [litOk] using hk
          exact pe_str.of fun σ H Q ⟨_, _, q⟩ => q H _ (.refl H) (QR.of_imm hi)
        | _ => cases hk
      | _ => cases hi
    · rename_i k j _ _ _
      obtain rfl := of_decide_eq_true hk
      exact ⟨(pe_un un_neg pe_int).of fun σ H Q ⟨_, _, q⟩ => ⟨_, rfl, q H _ (.refl H) ⟨rfl, rfl⟩⟩, n1, n2, fun b e _ => (by cases e), fun b e _ => by cases e⟩
  | .var j, x, d, hk, hu, hp, _, hd => by
    have hk : varE N sc j x = true := by unfold ckQ at hk; exact hk
    have hj : ρ[j]? = some (some d) := by
      unfold qev at hd
      split at hd
      · cases hd; assumption
      · cases hd
    obtain ⟨e1, n, p, rfl⟩ := var_q h hk hj
    exact SQ.plain e1 rfl (hρ j d hj).1 (hρ j d hj).2 rfl rfl
  | .cat a b, x, d, hk, hu, hp, hf, hd => by
    unfold ckQ at hk
    split at hk <;> first | (exact absurd hk Bool.false_ne_true) | skip
    all_goals (rename_i heq; cases heq)
    obtain ⟨k1, k2⟩ := and2 hk
    obtain ⟨p1, p2⟩ := and2 (show (plainQ a && plainQ b) = true from hp)
    obtain ⟨xs, h1, hd⟩ := Option.bind_eq_some_iff.mp (show (qList (qev tab ct cd ρ a)).bind _ = some d from hd)
    obtain ⟨ys, h2, hd⟩ := Option.bind_eq_some_iff.mp hd
    obtain ⟨hl, rfl⟩ := some_if hd
    have s1 := sQ h hρ a _ _ k1 (fun c hc => hu c (List.mem_append_left _ hc)) p1 (fun c hc => hf c (List.mem_append_left _ hc)) (qList_some h1)
    have s2 := sQ h hρ b _ _ k2 (fun c hc => hu c (List.mem_append_right _ hc)) p2 (fun c hc => hf c (List.mem_append_right _ hc)) (qList_some h2)
    have i1 := s1.ok _ rfl
    have i2 := s2.ok _ rfl
    have hi : (xs ++ ys).all immD = true := by rw [List.all_append, i1, i2]; rfl
    refine SQ.plain ((pe_op (ob_all .add) s1.pe s2.pe).of fun σ H Q ⟨h0, he, q⟩ => ⟨h0, he, fun H1 v g hv => ⟨h0, he.ex g.ex, fun H2 w g2 hw => ?_⟩⟩) rfl (fun zs e => by cases e; exact hi) (fun xs => ⟨fun e => (by cases e), fun ys e => by cases e⟩) rfl rfl
    refine ⟨H2, .list xs, .list ys, .fr (.list (xs ++ ys)), Ex.refl _, (hv.ex g2.ex).rf, hw.rf, if_pos hl, fun p o hp hc => ?_⟩
    obtain ⟨vs, rfl, hvs⟩ := hc.list
    refine q _ _ (.new (g.trans g2) hp) ⟨p, rfl, ?_, hi⟩
    rw [upd_same, imms_v hvs hi]
  | .at a b, x, d, hk, hu, hp, hf, hd => by
    unfold ckQ at hk
    split at hk <;> first | (exact absurd hk Bool.false_ne_true) | skip
    all_goals (rename_i heq; cases heq)
    obtain ⟨k0, k1⟩ := and2 hk
    obtain ⟨k1, k2⟩ := and2 k1
    obtain ⟨p1, p2⟩ := and2 (show (plainQ a && plainQ b) = true from hp)
    obtain ⟨xs, h1, hd⟩ := Option.bind_eq_some_iff.mp (show (qList (qev tab ct cd ρ a)).bind _ = some d from hd)
    obtain ⟨j, h2, hd⟩ := Option.bind_eq_some_iff.mp hd
    have s1 := sQ h hρ a _ _ k1 (fun c hc => hu c (List.mem_append_left _ hc)) p1 (fun c hc => hf c (List.mem_append_left _ hc)) (qList_some h1)
    have s2 := sQ h hρ b _ _ k2 (fun c hc => hu c (List.mem_append_right _ hc)) p2 (fun c hc => hf c (List.mem_append_right _ hc)) (qInt_some h2)
    have i1 := s1.ok _ rfl
    have hi : immD d = true := by
      unfold L2.atI at hd
      obtain ⟨k, _, hk⟩ := Option.bind_eq_some_iff.mp hd
      exact List.all_eq_true.mp i1 d (List.mem_of_getElem? hk)
    obtain ⟨n1, n2⟩ := imm_nt hi
    refine SQ.plain ((pe_ix (oi_all h.un) s1.pe s2.pe (plainIx_of k0)).of fun σ H Q ⟨h0, he, q⟩ => ⟨h0, he, fun H1 v g hv => ⟨h0, he.ex g.ex, fun H2 w g2 hw => ?_⟩⟩) rfl n1 n2 rfl rfl
    refine ⟨H2, .list xs, .int j, d, Ex.refl _, (hv.ex g2.ex).rf, hw.rf, hd, fun u hu => ?_⟩
    rw [imm_v hu hi]
    exact q _ _ (g.trans g2) (QR.of_imm hi)
  | .toI a, x, d, hk, hu, hp, hf, hd => by
    unfold ckQ at hk
    split at hk <;> first | (exact absurd hk Bool.false_ne_true) | skip
    all_goals (rename_i heq; cases heq)
    obtain ⟨hk, k4⟩ := and2 hk
    obtain ⟨hk, k3⟩ := and2 hk
    obtain ⟨k1, k2⟩ := and2 hk
    obtain rfl := of_decide_eq_true k1
    obtain ⟨b, h1, rfl⟩ := Option.map_eq_some_iff.mp (show (qBool (qev tab ct cd ρ a)).map _ = some d from hd)
    have s1 := sQ h hρ a _ _ k4 hu hp hf (qBool_some h1)
    refine SQ.plain ((pe_callTy (call_int1 (X := X)) (h.gl _ k2) h.mi (by decide +kernel) (pa_cons s1.pe pa_nil (star_cons k3)) (by decide) (by decide) (star_cons k3)).of fun σ H Q ⟨h0, he, q⟩ => ⟨h0, he, fun H1 v g hv => ?_⟩) rfl (fun xs e => (by cases e)) (fun xs => ⟨fun e => (by cases e), fun ys e => by cases e⟩) rfl rfl
    exact .inr ⟨b, by rw [hv.2]; rfl, q _ _ g ⟨rfl, rfl⟩⟩
  | .cnt a, x, d, hk, hu, hp, hf, hd => by
    unfold ckQ at hk
    split at hk <;> first | (exact absurd hk Bool.false_ne_true) | skip
    all_goals (rename_i heq; cases heq)
    obtain ⟨hk, k4⟩ := and2 hk
    obtain ⟨hk, k3⟩ := and2 hk
    obtain ⟨k1, k2⟩ := and2 hk
    obtain rfl := of_decide_eq_true k1
    obtain ⟨xs, h1, hd⟩ := Option.bind_eq_some_iff.mp (show (qList (qev tab ct cd ρ a)).bind _ = some d from hd)
    obtain ⟨bs, hb, rfl⟩ := Option.map_eq_some_iff.mp hd
    obtain rfl := bools_of hb
    have s1 := sQ h hρ a _ _ k4 hu hp hf (qList_some h1)
    refine SQ.plain ((pe_bm PySem.F.plainAttrs_list PySem.F.slot_list_count PySem.F.type_list_count mtf_countT s1.pe (pa_cons pe_bl pa_nil (star_cons rfl)) (dot_of k3) (few_of rfl rfl (by simp)) k2 (star_cons rfl)).of fun σ H Q ⟨h0, he, q⟩ => ⟨h0, he, fun H1 v g hv => ?_⟩) rfl (fun xs e => (by cases e)) (fun xs => ⟨fun e => (by cases e), fun ys e => by cases e⟩) rfl rfl
    obtain ⟨p, rfl, hv2, _⟩ := hv
    rw [List.map_map] at hv2
    exact ⟨.inl ⟨rfl, _, .inl (.inl hv2)⟩, p, bs, rfl, rfl, .inl (.inl hv2), q _ _ g ⟨rfl, rfl⟩⟩
  | .fnd a, x, d, hk, hu, hp, hf, hd => by
    unfold ckQ at hk
    split at hk <;> first | (exact absurd hk Bool.false_ne_true) | skip
    all_goals (rename_i heq; cases heq)
    obtain ⟨hk, k4⟩ := and2 hk
    obtain ⟨hk, k3⟩ := and2 hk
    obtain ⟨k1, k2⟩ := and2 hk
    obtain rfl := of_decide_eq_true k1
    obtain ⟨xs, h1, hd⟩ := Option.bind_eq_some_iff.mp (show (qList (qev tab ct cd ρ a)).bind _ = some d from hd)
    obtain ⟨bs, hb, hd⟩ := Option.bind_eq_some_iff.mp hd
    obtain ⟨j, hj, rfl⟩ := Option.map_eq_some_iff.mp hd
    obtain rfl := bools_of hb
    have s1 := sQ h hρ a _ _ k4 hu hp hf (qList_some h1)
    refine SQ.plain ((pe_bm PySem.F.plainAttrs_list PySem.F.slot_list_index PySem.F.type_list_index mt_index s1.pe (pa_cons pe_bl pa_nil (star_cons rfl)) (dot_of k3) (few_of rfl rfl (by simp)) k2 (star_cons rfl)).of fun σ H Q ⟨h0, he, q⟩ => ⟨h0, he, fun H1 v g hv => ?_⟩) rfl (fun xs e => (by cases e)) (fun xs => ⟨fun e => (by cases e), fun ys e => by cases e⟩) rfl rfl
    obtain ⟨p, rfl, hv2, hv3⟩ := hv
    have hda : DpAll X.K H1 ((bs.map PyData.bool).map vOf) (bs.map PyData.bool) := imms_dp hv3
    have fl : (bs.map PyData.bool).all flatD = true := List.all_eq_true.mpr fun x hx => by
      obtain ⟨_, _, rfl⟩ := List.mem_map.mp hx
      rfl
    obtain ⟨m, z, rfl, g1, g2, g3⟩ := findD_at (K := X.K) (F := H1) (H := H1) (w := .bl true) (d := .bool true) (.inl (.bl true)) rfl hda fl hj
    refine ⟨.inl ⟨rfl, _, .inl (.inl hv2)⟩, p, _, .bl true, m, z, rfl, rfl, .inl (.inl hv2), rfl, flats_V (H := H1) hda fl, g1, g2, g3, ?_⟩
    have := q H1 (vOf (.int ((0 + m : Nat) : Int))) g (QR.of_imm rfl)
    rw [Nat.zero_add] at this
    exact this
  | .ne a b, x, d, hk, hu, hp, hf, hd => by
    unfold ckQ at hk
    split at hk <;> first | (exact absurd hk Bool.false_ne_true) | skip
    all_goals (rename_i heq; cases heq)
    obtain ⟨k0, k1⟩ := and2 hk
    obtain ⟨k1, k2⟩ := and2 k1
    obtain ⟨p1, p2⟩ := and2 (show (plainQ a && plainQ b) = true from hp)
    obtain ⟨u, h1, hd⟩ := Option.bind_eq_some_iff.mp (show (qInt (qev tab ct cd ρ a)).bind _ = some d from hd)
    obtain ⟨w, h2, rfl⟩ := Option.map_eq_some_iff.mp hd
    have s1 := sQ h hρ a _ _ k1 (fun c hc => hu c (List.mem_append_left _ hc)) p1 (fun c hc => hf c (List.mem_append_left _ hc)) (qInt_some h1)
    have s2 := sQ h hρ b _ _ k2 (fun c hc => hu c (List.mem_append_right _ hc)) p2 (fun c hc => hf c (List.mem_append_right _ hc)) (qInt_some h2)
    have dne : (!decide (V.int u = V.int w)) = !decide (u = w) := by
      by_cases e : u = w
      · subst e; simp
      · rw [decide_eq_false e, decide_eq_false fun z => e (V.int.inj z)]
    refine ⟨(pe_cmpR op_ne s1.pe s2.pe (behind_of k0)).of fun σ H Q ⟨h0, he, q⟩ => ⟨h0, he, fun H1 v g hv => ⟨h0, he.ex g.ex, fun H2 v2 g2 hv2 => ?_⟩⟩, fun xs e => (by cases e), fun xs => ⟨fun e => (by cases e), fun ys e => by cases e⟩, fun c e _ => ?_, fun c e z => by rcases z with z | z <;> cases z⟩
    · rw [hv.2, hv2.2]
      refine ⟨rfl, ?_⟩
      rw [show decide (vOf (PyData.int u) = vOf (PyData.int w)) = decide (V.int u = V.int w) from rfl, dne]
      exact q _ _ (g.trans g2) ⟨rfl, rfl⟩
    · cases e
      refine (pt_cmpR op_ne s1.pe s2.pe (behind_of k0)).of fun σ H Q ⟨h0, he, q⟩ => ⟨h0, he, fun H1 v g hv => ⟨h0, he.ex g.ex, fun H2 v2 g2 hv2 => ?_⟩⟩
      rw [hv.2, hv2.2]
      refine ⟨rfl, _, rfl, ?_⟩
      rw [show decide (vOf (PyData.int u) = vOf (PyData.int w)) = decide (V.int u = V.int w) from rfl, dne]
      exact q _ (g.trans g2)
  | .nt a, x, d, hk, hu, hp, hf, hd => by
    unfold ckQ at hk
    split at hk <;> first | (exact absurd hk Bool.false_ne_true) | skip
    all_goals (rename_i heq; cases heq)
    obtain ⟨hi, hk⟩ := and2 hk
    obtain ⟨b, h1, rfl⟩ := Option.map_eq_some_iff.mp (show (qBool (qev tab ct cd ρ a)).map _ = some d from hd)
    have s1 := sQ h hρ a _ _ hk hu hp hf (qBool_some h1)
    have hi : isIfe a = false := by simpa using hi
    refine ⟨(pe_not s1.pe).of fun σ H Q ⟨h0, he, q⟩ => ⟨h0, he, fun H1 v g hv => ⟨b, hv.2, q _ _ g ⟨rfl, rfl⟩⟩⟩, fun xs e => (by cases e), fun xs => ⟨fun e => (by cases e), fun ys e => by cases e⟩, fun c e _ => ?_, fun c e z => by rcases z with z | z <;> cases z⟩
    cases e
    exact (pt_not (s1.pt b rfl hi)).of fun σ H Q ⟨h0, he, q⟩ => ⟨h0, he, fun H1 g => q H1 g⟩
  | .ife c a b, x, d, hk, hu, hp, hf, hd => by
    unfold ckQ at hk
    split at hk <;> first | (exact absurd hk Bool.false_ne_true) | skip
    all_goals (rename_i heq; cases heq)
    obtain ⟨hi, hk⟩ := and2 hk
    obtain ⟨k1, hk⟩ := and2 hk
    obtain ⟨k2, k3⟩ := and2 hk
    obtain ⟨p1, p2⟩ := and2 (show (plainQ c && (plainQ a && plainQ b)) = true from hp)
    obtain ⟨p2, p3⟩ := and2 p2
    obtain ⟨k, h1, hd⟩ := Option.bind_eq_some_iff.mp (show (qBool (qev tab ct cd ρ c)).bind _ = some d from hd)
    have s1 := sQ h hρ c _ _ k1 (fun y hy => hu y (List.mem_append_left _ hy)) p1 (fun y hy => hf y (List.mem_append_left _ hy)) (qBool_some h1)
    have hi : isIfe c = false := by simpa using hi
    have t1 := s1.pt k rfl hi
    obtain ⟨u, h2, hd⟩ := Option.bind_eq_some_iff.mp hd
    obtain ⟨w, h3, rfl⟩ := Option.map_eq_some_iff.mp hd
    have s2 := sQ h hρ a _ _ k2 (fun y hy => hu y (List.mem_append_right _ (List.mem_append_left _ hy))) p2 (fun y hy => hf y (List.mem_append_right _ (List.mem_append_left _ hy))) h2
    have s3 := sQ h hρ b _ _ k3 (fun y hy => hu y (List.mem_append_right _ (List.mem_append_right _ hy))) p3 (fun y hy => hf y (List.mem_append_right _ (List.mem_append_right _ hy))) h3
    refine ⟨(pe_ifExp t1 s2.pe s3.pe).of fun σ H Q ⟨h0, he, q⟩ => ⟨h0, he, fun H1 g => ?_⟩, ?_, ?_, fun c e z => (by cases z), fun c e z => by rcases z with z | z <;> cases z⟩
    · cases k with
      | true => exact ⟨h0, he.ex g.ex, fun H2 v g2 hv => q H2 v (g.trans g2) hv⟩
      | false => exact ⟨h0, he.ex g.ex, fun H2 v g2 hv => q H2 v (g.trans g2) hv⟩
    · cases k with
      | true => exact s2.ok
      | false => exact s3.ok
    · cases k with
      | true => exact s2.nt
      | false => exact s3.nt
  | .orr a b, x, d, hk, hu, hp, hf, hd => by
    unfold ckQ at hk
    split at hk <;> first | (exact absurd hk Bool.false_ne_true) | skip
    all_goals (rename_i heq; cases heq)
    obtain ⟨hk, hk2⟩ := and2 hk
    obtain ⟨hia, hk⟩ := and2 hk
    obtain ⟨p1, p2⟩ := and2 (show (plainQ a && plainQ b) = true from hp)
    obtain ⟨u, h1, hd⟩ := Option.bind_eq_some_iff.mp (show (qBool (qev tab ct cd ρ a)).bind _ = some d from hd)
    obtain ⟨w, h2, rfl⟩ := Option.map_eq_some_iff.mp hd
    have s1 := sQ h hρ a _ _ hk (fun c hc => hu c (List.mem_append_left _ hc)) p1 (fun c hc => hf c (List.mem_append_left _ hc)) (qBool_some h1)
    have hia : isIfe a = false := by simpa using hia
    have t1 := s1.pt u rfl hia
    have key : ∀ {x y : Expr} {r : List Expr} {p : Pos}, PE X x (tQ i adr ρ (.bool u)) → PT X x (tQt i adr ρ u) → PE X (.BoolOp .Or (y :: r) p) (tQ i adr ρ (.bool w)) → PW X (.BoolOp .Or (y :: r) p) (tQt i adr ρ w) →
        PE X (.BoolOp .Or (x :: y :: r) p) (tQ i adr ρ (.bool (u || w))) ∧ PW X (.BoolOp .Or (x :: y :: r) p) (tQt i adr ρ (u || w)) := fun {x y r p} f1 f2 f3 f4 => by
      refine ⟨(pe_or f1 f3).of fun σ H Q ⟨h0, he, q⟩ => ⟨h0, he, fun H1 v g hv => ⟨u, hv.2, ?_⟩⟩, pw_of (pw_or f2 f4) fun σ H Q ⟨h0, he, q⟩ => ⟨h0, he, fun H1 g => ?_⟩⟩
      · cases u with
        | true => exact q H1 _ g ⟨rfl, rfl⟩
        | false => exact ⟨h0, he.ex g.ex, fun H2 v g2 hv => q H2 v (g.trans g2) hv⟩
      · cases u with
        | true => exact q H1 g
        | false => exact ⟨h0, he.ex g.ex, fun H2 g2 => q H2 (g.trans g2)⟩
    have fin : ∀ {x : Expr}, PE X x (tQ i adr ρ (.bool (u || w))) ∧ PW X x (tQt i adr ρ (u || w)) → SQ X i adr ρ (.orr a b) x (.bool (u || w)) := fun ⟨g1, g2⟩ =>
      ⟨g1, fun xs e => (by cases e), fun xs => ⟨fun e => (by cases e), fun ys e => by cases e⟩, fun c e _ => by cases e; exact g2.pt, fun c e _ => by cases e; exact g2⟩
    split at hk2
    · obtain ⟨hib, hk2⟩ := and2 hk2
      have hib : isIfe b = false := by simpa using hib
      have s2 := sQ h hρ b _ _ hk2 (fun c hc => hu c (List.mem_append_right _ hc)) p2 (fun c hc => hf c (List.mem_append_right _ hc)) (qBool_some h2)
      exact fin (key s1.pe t1 (pe_one s2.pe) (pw_or1 (s2.pt w rfl hib)))
    · obtain ⟨k1, k2⟩ := and2 hk2
      have s2 := sQ h hρ b _ _ k2 (fun c hc => hu c (List.mem_append_right _ hc)) p2 (fun c hc => hf c (List.mem_append_right _ hc)) (qBool_some h2)
      exact fin (key s1.pe t1 s2.pe (s2.pw w rfl (.inl k1)))
  | .andd a b, x, d, hk, hu, hp, hf, hd => by
    unfold ckQ at hk
    split at hk <;> first | (exact absurd hk Bool.false_ne_true) | skip
    all_goals (rename_i heq; cases heq)
    obtain ⟨hk, hk2⟩ := and2 hk
    obtain ⟨hia, hk⟩ := and2 hk
    obtain ⟨p1, p2⟩ := and2 (show (plainQ a && plainQ b) = true from hp)
    obtain ⟨u, h1, hd⟩ := Option.bind_eq_some_iff.mp (show (qBool (qev tab ct cd ρ a)).bind _ = some d from hd)
    obtain ⟨w, h2, rfl⟩ := Option.map_eq_some_iff.mp hd
    have s1 := sQ h hρ a _ _ hk (fun c hc => hu c (List.mem_append_left _ hc)) p1 (fun c hc => hf c (List.mem_append_left _ hc)) (qBool_some h1)
    have hia : isIfe a = false := by simpa using hia
    have t1 := s1.pt u rfl hia
    have key : ∀ {x y : Expr} {r : List Expr} {p : Pos}, PE X x (tQ i adr ρ (.bool u)) → PT X x (tQt i adr ρ u) → PE X (.BoolOp .And (y :: r) p) (tQ i adr ρ (.bool w)) → PW X (.BoolOp .And (y :: r) p) (tQt i adr ρ w) →
        PE X (.BoolOp .And (x :: y :: r) p) (tQ i adr ρ (.bool (u && w))) ∧ PW X (.BoolOp .And (x :: y :: r) p) (tQt i adr ρ (u && w)) := fun {x y r p} f1 f2 f3 f4 => by
      refine ⟨(pe_and f1 f3).of fun σ H Q ⟨h0, he, q⟩ => ⟨h0, he, fun H1 v g hv => ⟨u, hv.2, ?_⟩⟩, pw_of (pw_and f2 f4) fun σ H Q ⟨h0, he, q⟩ => ⟨h0, he, fun H1 g => ?_⟩⟩
      · cases u with
        | false => exact q H1 _ g ⟨rfl, rfl⟩
        | true => exact ⟨h0, he.ex g.ex, fun H2 v g2 hv => q H2 v (g.trans g2) hv⟩
      · cases u with
        | false => exact q H1 g
        | true => exact ⟨h0, he.ex g.ex, fun H2 g2 => q H2 (g.trans g2)⟩
    have fin : ∀ {x : Expr}, PE X x (tQ i adr ρ (.bool (u && w))) ∧ PW X x (tQt i adr ρ (u && w)) → SQ X i adr ρ (.andd a b) x (.bool (u && w)) := fun ⟨g1, g2⟩ =>
      ⟨g1, fun xs e => (by cases e), fun xs => ⟨fun e => (by cases e), fun ys e => by cases e⟩, fun c e _ => by cases e; exact g2.pt, fun c e _ => by cases e; exact g2⟩
    split at hk2
    · obtain ⟨hib, hk2⟩ := and2 hk2
      have hib : isIfe b = false := by simpa using hib
      have s2 := sQ h hρ b _ _ hk2 (fun c hc => hu c (List.mem_append_right _ hc)) p2 (fun c hc => hf c (List.mem_append_right _ hc)) (qBool_some h2)
      exact fin (key s1.pe t1 (pe_one s2.pe) (pw_and1 (s2.pt w rfl hib)))
    · obtain ⟨k1, k2⟩ := and2 hk2
      have s2 := sQ h hρ b _ _ k2 (fun c hc => hu c (List.mem_append_right _ hc)) p2 (fun c hc => hf c (List.mem_append_right _ hc)) (qBool_some h2)
      exact fin (key s1.pe t1 s2.pe (s2.pw w rfl (.inr k1)))
  | .call g, x, d, hk, hu, hp, hf, hd => by
    unfold ckQ at hk
    split at hk <;> first | (exact absurd hk Bool.false_ne_true) | skip
    all_goals (rename_i heq; cases heq)
    obtain ⟨hk, k4⟩ := and2 hk
    obtain ⟨hk, k3⟩ := and2 hk
    obtain ⟨k1, k2⟩ := and2 hk
    obtain rfl := of_decide_eq_true k1
    obtain ⟨hi, f, fd, ps, k, F, hr, hm, hkp, hb, hl⟩ := h.cds g (hf g List.mem_cons_self) d hd
    obtain ⟨n1, n2⟩ := imm_nt hi
    obtain ⟨hv, n, p, rfl⟩ := var_of h.toHX k4
    refine SQ.plain ((pe_callP F hr h.hot h.pn (h.gl _ k2) hm hkp hb (pa_cons hv pa_nil (star_cons rfl)) (okName_of k3).1 (star_cons rfl)).of fun σ H Q ⟨h0, he, q⟩ => ⟨h0, hl, rfl, h.zc, fun H1 g1 => q H1 _ g1 (QR.of_imm hi)⟩) rfl n1 n2 rfl rfl
termination_by q => sizeOf q
/-! ### suites -/
end
inductive QS where
  | asg (j : Nat) (e : QE)
  | ifr (c e : QE)
  | ret (e : QE)
def qrun (tab ct : String → Bool) (cd : String → Option D) : List QS → List (Option D) → Option D
  | [], _ => none
  | .asg j e :: r, ρ => (qev tab ct cd ρ e).bind fun d => qrun tab ct cd r (ρ.set j (some d))
  | .ifr c e :: r, ρ => (qBool (qev tab ct cd ρ c)).bind fun k => (qev tab ct cd ρ e).bind fun d => (qrun tab ct cd r ρ).bind fun w => if immD d then some (if k then d else w) else none
  | .ret e :: _, ρ => (qev tab ct cd ρ e).bind fun d => if immD d then some d else none
def ckQS (N : List Str) (sc : Scope) (i : Nat) : List QS → List Stmt → Bool
  | [.ret e], [.Return (some z) _] => ckQ N sc i e z
  | .asg j e :: r, .Assign [.Name x _] v _ :: sts => (nmOk N sc j x && decide (sc.names.lookup x = some .local)) && decide (j ≠ i) && ckOne v && noComp v && ckQ N sc i e v && ckQS N sc i r sts
  | .ifr c e :: r, .If y [.Return (some z) _] [] _ :: sts => !isIfe c && ckQ N sc i c y && ckQ N sc i e z && ckQS N sc i r sts
  | _, _ => false
def usedQS : List QS → List String
  | [] => []
  | .asg _ e :: r => usedQ e ++ usedQS r
  | .ifr c e :: r => usedQ c ++ (usedQ e ++ usedQS r)
  | .ret e :: r => usedQ e ++ usedQS r
def callsQS : List QS → List String
  | [] => []
  | .asg _ e :: r => callsQ e ++ callsQS r
  | .ifr c e :: r => callsQ c ++ (callsQ e ++ callsQS r)
  | .ret e :: r => callsQ e ++ callsQS r
def plainQS : List QS → Bool
  | [] => true
  | .asg _ e :: r => plainQ e && plainQS r
  | .ifr c e :: r => plainQ c && (plainQ e && plainQS r)
  | .ret e :: r => plainQ e && plainQS r
def tQS (N : List Str) (i : Nat) (a : Addr) (ρ : List (Option D)) (d : D) : TS := fun T σ H => σ.length = N.length ∧ σ[i]? = some (some (.ref a)) ∧ EnvQ σ H ρ ∧ ∀ H1, Gw H H1 → T.rt (vOf d) H1
section
variable {X : Cx} {N : List Str} {sc : Scope} {D adr : Addr} {oe : Obj} {tab ct : String → Bool} {cd : String → Option PyData} {used fs : List String} {i : Nat}
theorem sQS (h : HQ X N sc D adr oe tab ct cd used fs) : ∀ (qs : List QS) (sts : List Stmt) (ρ : List (Option PyData)) (d : PyData), ckQS N sc i qs sts = true → (∀ c ∈ usedQS qs, c ∈ used) → plainQS qs = true → (∀ g ∈ callsQS qs, g ∈ fs) → (∀ (j : Nat) (d : PyData), ρ[j]? = some (some d) → QOk d) → qrun tab ct cd qs ρ = some d → immD d = true ∧ PSs X sts (tQS N i adr ρ d)
  | [], _, _, _, hk, _, _, _, _, _ => by unfold ckQS at hk; exact absurd hk Bool.false_ne_true
  | .ret e :: r, sts, ρ, d, hk, hu, hp, hf, hρ, hd => by
    unfold ckQS at hk
    split at hk <;> first | (exact absurd hk Bool.false_ne_true) | skip
    all_goals (rename_i heq; cases heq)
    obtain ⟨d', h1, hd⟩ := Option.bind_eq_some_iff.mp (show (qev tab ct cd ρ e).bind _ = some d from hd)
    obtain ⟨hi, rfl⟩ := some_if hd
    have s1 := sQ h hρ e _ _ hk (fun c hc => hu c (List.mem_append_left _ hc)) (and2 (show (plainQ e && plainQS []) = true from hp)).1 (fun c hc => hf c (List.mem_append_left _ hc)) h1
    refine ⟨hi, ⟨fun pins s σ H T I ⟨hl, h0, he, q⟩ => (pss_one (ps_ret s1.pe)).run pins s σ H T I ?_⟩⟩
    exact ⟨h0, he, fun H1 v g hv => by rw [hv.imm hi]; exact q H1 g⟩
  | .asg j e :: r, sts, ρ, d, hk, hu, hp, hf, hρ, hd => by
    unfold ckQS at hk
    split at hk <;> first | (exact absurd hk Bool.false_ne_true) | skip
    all_goals (rename_i heq; cases heq)
    obtain ⟨hk, k6⟩ := and2 hk
    obtain ⟨hk, k5⟩ := and2 hk
    obtain ⟨hk, k4⟩ := and2 hk
    obtain ⟨hk, k3⟩ := and2 hk
    obtain ⟨k1, k2⟩ := and2 hk
    obtain ⟨k1, k7⟩ := and2 k1
    obtain ⟨n1, n2, n3, n4⟩ := and4 k1
    have k2 := of_decide_eq_true k2
    obtain ⟨p1, p2⟩ := and2 (show (plainQ e && plainQS r) = true from hp)
    obtain ⟨d', h1, hd⟩ := Option.bind_eq_some_iff.mp (show (qev tab ct cd ρ e).bind _ = some d from hd)
    have s1 := sQ h hρ e _ _ k5 (fun c hc => hu c (List.mem_append_left _ hc)) p1 (fun c hc => hf c (List.mem_append_left _ hc)) h1
    have hρ' : ∀ (k : Nat) (d : PyData), (ρ.set j (some d'))[k]? = some (some d) → QOk d := fun k d0 hk0 => by
      by_cases e : j = k
      · subst e
        rw [List.getElem?_set] at hk0
        simp only [if_true] at hk0
        split at hk0
        · cases hk0
          exact ⟨s1.ok, s1.nt⟩
        · cases hk0
      · rw [List.getElem?_set_ne e] at hk0
        exact hρ k d0 hk0
    obtain ⟨hi, s2⟩ := sQS h r _ _ d k6 (fun c hc => hu c (List.mem_append_right _ hc)) p2 (fun c hc => hf c (List.mem_append_right _ hc)) hρ' hd
    have hN := of_decide_eq_true n1
    refine ⟨hi, ⟨fun pins s σ H T I ⟨hl, h0, he, q⟩ => (pss_cons (ps_set (i := j) h.nd (by rw [h.eN]; exact hN) (by rw [h.esc]; exact loc_of n4) s1.pe (sw_off k3 k4) (.inr (by rw [h.esc]; exact of_decide_eq_true k7))) s2).run pins s σ H T I ?_⟩⟩
    have hj : j < σ.length := by rw [hl]; exact (List.getElem?_eq_some_iff.mp hN).1
    refine ⟨h0, he, fun H1 v g hv => ?_⟩
    refine ⟨by rw [List.length_set]; exact hl, by rw [List.getElem?_set_ne k2]; exact h0, fun k d0 hk0 => ?_, fun H2 g2 => q H2 (g.trans g2)⟩
    by_cases e : j = k
    · subst e
      rw [List.getElem?_set] at hk0
      simp only [if_true] at hk0
      split at hk0
      · cases hk0
        exact ⟨v, by rw [List.getElem?_set_self hj], hv⟩
      · cases hk0
    · rw [List.getElem?_set_ne e] at hk0 ⊢
      obtain ⟨w, w1, w2⟩ := he k d0 hk0
      exact ⟨w, w1, w2.ex g.ex⟩
  | .ifr c e :: r, sts, ρ, d, hk, hu, hp, hf, hρ, hd => by
    unfold ckQS at hk
    split at hk <;> first | (exact absurd hk Bool.false_ne_true) | skip
    all_goals (rename_i heq; cases heq)
    obtain ⟨hk, k4⟩ := and2 hk
    obtain ⟨hk, k3⟩ := and2 hk
    obtain ⟨k1, k2⟩ := and2 hk
    have k1 : isIfe c = false := by simpa using k1
    obtain ⟨p1, p2⟩ := and2 (show (plainQ c && (plainQ e && plainQS r)) = true from hp)
    obtain ⟨p2, p3⟩ := and2 p2
    obtain ⟨k, h1, hd⟩ := Option.bind_eq_some_iff.mp (show (qBool (qev tab ct cd ρ c)).bind _ = some d from hd)
    obtain ⟨d', h2, hd⟩ := Option.bind_eq_some_iff.mp hd
    obtain ⟨w, h3, hd⟩ := Option.bind_eq_some_iff.mp hd
    obtain ⟨hi, rfl⟩ := some_if hd
    have s1 := sQ h hρ c _ _ k2 (fun y hy => hu y (List.mem_append_left _ hy)) p1 (fun y hy => hf y (List.mem_append_left _ hy)) (qBool_some h1)
    have s2 := sQ h hρ e _ _ k3 (fun y hy => hu y (List.mem_append_right _ (List.mem_append_left _ hy))) p2 (fun y hy => hf y (List.mem_append_right _ (List.mem_append_left _ hy))) h2
    obtain ⟨hi2, s3⟩ := sQS h r _ ρ w k4 (fun y hy => hu y (List.mem_append_right _ (List.mem_append_right _ hy))) p3 (fun y hy => hf y (List.mem_append_right _ (List.mem_append_right _ hy))) hρ h3
    refine ⟨by cases k <;> assumption, ⟨fun pins s σ H T I ⟨hl, h0, he, q⟩ => (pss_cons (ps_if (s1.pt k rfl k1) (pss_one (ps_ret s2.pe)) pss_nil) s3).run pins s σ H T I ?_⟩⟩
    refine ⟨h0, he, fun H1 g => ?_⟩
    cases k with
    | true => exact ⟨h0, he.ex g.ex, fun H2 v g2 hv => by rw [hv.imm hi]; exact q H2 (g.trans g2)⟩
    | false => exact ⟨hl, h0, he.ex g.ex, fun H2 g2 => q H2 (g.trans g2)⟩
end
def immEq : D → D → Bool
  | .none, .none => true
  | .bool a, .bool b => a == b
  | .int a, .int b => decide (a = b)
  | .str a, .str b => decide (a = b)
  | _, _ => false
theorem immEq_of {d e : D} (h : immEq d e = true) : d = e ∧ immD e = true := by
  unfold immEq at h
  split at h
  · exact ⟨rfl, rfl⟩
  · rw [eq_of_beq h]; exact ⟨rfl, rfl⟩
  · rw [of_decide_eq_true h]; exact ⟨rfl, rfl⟩
  · rw [of_decide_eq_true h]; exact ⟨rfl, rfl⟩
  · cases h
def qck (tab : String → Bool) (cd : String → Option D) (qs : List QS) (n : Nat) (d : D) : Bool := match qrun tab (fun _ => false) cd qs (List.replicate n none) with
  | some e => immEq e d
  | none => false
theorem qck_of {tab : String → Bool} {cd : String → Option D} {qs : List QS} {n : Nat} {d : D} (h : qck tab cd qs n d = true) : qrun tab (fun _ => false) cd qs (List.replicate n none) = some d ∧ immD d = true := by
  unfold qck at h
  split at h
  · rename_i e he
    obtain ⟨rfl, h2⟩ := immEq_of h
    exact ⟨he, h2⟩
  · cases h
/-! ### defs -/
section
variable {P : Program} {w : World} {K : Frag} {mg : Str → Option Value} {base : Heap} {cl : Cl} {cv : String → Value} {D : Addr} {tab : String → Bool}
/-- a def that computes of an exception of D the constant d -/
def AskD (P : Program) (w : World) (K : Frag) (mg : Str → Option Value) (base : Heap) (D : Addr) (k : Nat) (g : String) (d : PyData) : Prop := immD d = true ∧ ∃ (f : Addr) (fd : FuncData) (ps : List Str) (j : Nat), FnP P w K mg base CX0 j f fd ps (fun p vs H Q E => ps.length = 1 ∧ vs = [.ref p.1] ∧ Zc (.ref D) none p.2 ∧ ∀ H1, Gw H H1 → Q (vOf d) H1) ∧ j ≤ k ∧ mg (Str.ofString g) = some (.ref f) ∧ PySem.W.keepIn K (.ref f) = true ∧ Binds K fd ps [] ∧ ps.length = 1
theorem AskD.mono {j k : Nat} {g : String} {d : PyData} (h : AskD P w K mg base D j g d) (e : j ≤ k) : AskD P w K mg base D k g d := by
  obtain ⟨hi, f, fd, ps, i, F, h1, h2⟩ := h
  exact ⟨hi, f, fd, ps, i, F, Nat.le_trans h1 e, h2⟩
theorem none_env {N : List Str} (j : Nat) (d : PyData) (h : (List.replicate N.length (none : Option PyData))[j]? = some (some d)) : False := by
  rw [List.getElem?_replicate] at h
  split at h <;> cases h
theorem def_askD {x qual : Str} {g : String} {st : Stmt} {f : Addr} {fd : FuncData} {N ps : List Str} {qs : List QS} {used : List String} {d : PyData} (Fu : Fun K x qual st f fd) (hb : Binds K fd ps []) (hm : mg (Str.ofString g) = some (.ref f)) (S : FnScope N ps (defScope st)) (q : QF K mg D tab used) (hmi : mg ("int" : Str) = none)
    (hck : ckQS N (defScope st) 0 qs (defBody st) = true) (hl : ps.length = 1) (hu : ∀ c ∈ usedQS qs, c ∈ used) (hp : plainQS qs = true) (hf : callsQS qs = []) (hN : 0 < N.length) (hq : qck tab (fun _ => none) qs N.length d = true) : AskD P w K mg base D 1 g d := by
  obtain ⟨hd, hi⟩ := qck_of hq
  refine ⟨hi, f, fd, ps, 1, ?_, Nat.le_refl _, hm, Fu.kp, hb, hl⟩
  obtain ⟨oc, od, kV, doc, pm, an, cdv, ct', osl, rfl, lk, hcd⟩ := Fu.ex
  refine fn_ofP lk hcd S (fun p vs H Q E h => by rw [h.2.1, h.1]; rfl) fun A outer s H vs Q E p hot hr ⟨h1, h2, h3, h4⟩ => ?_
  subst h2
  have hx : HQ (cxH CX0 P w K mg base N qual (defScope st) f cdv A outer s H E p) N (defScope st) D p.1 p.2 tab (fun _ => false) (fun _ => none) used [] := by
    refine ⟨⟨q.C, rfl, rfl, List.mem_cons_self, h3, ?_, hot, q.isi, fun z hz => ?_, q.cls, q.vm, q.vk, fun g hg => absurd hg (List.not_mem_nil)⟩, hmi, ?_, S.nd, fun g hg => absurd hg (List.not_mem_nil)⟩
    · obtain ⟨_, v, e, _⟩ := hot
      exact ⟨v, e⟩
    · show Gl _ _
      unfold Gl Env.kindOf
      exact of_decide_eq_true hz
    · have := hr.un
      show (A.deeper (envOfC qual (defScope st) s.heap.objs.size f cdv)).units + 64 < cLine
      omega
  obtain ⟨_, e1⟩ := sQS hx qs (defBody st) _ d hck hu hp (fun g hg => by rw [hf] at hg; exact hg) (fun j d h => (none_env j d h).elim) hd
  refine ⟨_, e1, ?_, ?_, fun j d h => (none_env j d h).elim, fun H1 g => h4 H1 g⟩
  · unfold L2.start
    have hpl : ps.length ≤ N.length := by have := congrArg List.length S.pre; rw [List.length_take] at this; omega
    simp
    omega
  · unfold L2.start
    simp
/-- try: .. except y as n: suite -/
def tryCkQ (N : List Str) (sc : Scope) (body : Ss) (y n : Str) (i : Nat) (qs : List QS) : List Stmt → Bool
  | [.Try tb [.ExceptHandler (some (.Name y' _)) (some n') (s0' :: suite) _] [] [] _] => decide (y' = y) && decide (n' = n) && decide (N[i]? = some n) && decide (sc.names.lookup n = some .local) && glB sc y && okName y && ckQS N sc i qs (s0' :: suite) && ckSs N sc body tb
  | _ => false
theorem def_tryQ {x y n qual : Str} {nm : String} {st : Stmt} {f Cy : Addr} {fd : FuncData} {N ps : List Str} {k fu i : Nat} {body : Ss} {qs : List QS} {used fs : List String} {hs : String → Option PyData}
    (Fu : Fun K x qual st f fd) (hb : Binds K fd ps []) (hm : mg (Str.ofString nm) = some (.ref f)) (S : FnScope N ps (defScope st)) (en : Env1 P w K mg base cl cv k)
    (hck : tryCkQ N (defScope st) body y n i qs (defBody st) = true) (hy : mg y = some (.ref Cy)) (hmi : mg ("int" : Str) = none)
    (hcase : ∀ s d, hs s = some d → ∃ (D : Addr) (tab : String → Bool) (cd : String → Option PyData), cv s = .ref D ∧ PySem.W.exmOne K (.ref D) (.ref Cy) = some true ∧ QF K mg D tab used ∧ qck tab cd qs N.length d = true ∧ ∀ g ∈ fs, ∀ d', cd g = some d' → AskD P w K mg base D k g d')
    (hu : ∀ c ∈ usedQS qs, c ∈ used) (hp : plainQS qs = true) (hf : ∀ g ∈ callsQS qs, g ∈ fs)
    (hrs : ∀ c ∈ rsSs body, RaiseOk K mg c (cv c) := by intro c hc; exact absurd hc (List.not_mem_nil (a := c))) (hgm : ∀ c ∈ cstTab, Str.ofString c.2.1 ∈ N → ∃ v u, mg (Str.ofString c.1) = some u ∧ RelV v u ∧ ∀ F, Dp K F v c.2.2 := by intro c hc hm; exact absurd hm (by revert c; decide +kernel)) :
    Has P w K mg base cv (k + 1) nm (fnT hs (fnB cl fu N.length ps.length body)) := by
  refine ⟨f, fd, ps, k + 1, ?_, Nat.le_refl _, hm, Fu.kp, hb, fun as z e => ?_⟩
  · unfold tryCkQ at hck
    split at hck
    · rename_i tb y' p1 n' s0' suite p2 p3 heq
      obtain ⟨hck, h8⟩ := and2 hck
      obtain ⟨hck, h7⟩ := and2 hck
      obtain ⟨hck, h6⟩ := and2 hck
      obtain ⟨hck, h5⟩ := and2 hck
      obtain ⟨hck, h4⟩ := and2 hck
      obtain ⟨hck, h3⟩ := and2 hck
      obtain ⟨h1, h2⟩ := and2 hck
      obtain rfl := of_decide_eq_true h1
      obtain rfl := of_decide_eq_true h2
      refine try_ok (i := i) (c := .ref Cy) Fu S en heq (of_decide_eq_true h3) (of_decide_eq_true h4) h8 hrs hgm fun X eP ew eb eK emg eN esc hr hgl => ?_
      subst eP ew eb eK emg
      refine ⟨⟨hgl _ h5, (okName_of h6).1, .inl hy⟩, fun s d h => ?_, fun s d h => ?_, fun s d h a oe pn hz hff => ?_⟩
      · obtain ⟨_, _, _, _, _, _, hq, _⟩ := hcase s d h
        exact (qck_of hq).2
      · obtain ⟨D, tab, cd, e1, e2, _⟩ := hcase s d h
        rw [e1]
        exact e2
      · obtain ⟨D, tab, cd, e1, e2, qf, hq, hfs⟩ := hcase s d h
        have hq := (qck_of hq).1
        rw [e1] at hz
        have hx : HQ (X.suite a ((a, oe) :: pn)) N (defScope st) D a oe tab (fun _ => false) cd used fs := by
          refine ⟨⟨qf.C, eN, esc, List.mem_cons_self, hz.zc, hff, ?_, qf.isi, fun z hzz => hgl z hzz, qf.cls, qf.vm, qf.vk, fun g hg => absurd hg (List.not_mem_nil)⟩, hmi, (by have := hr.un; show X.A.units + 64 < cLine; omega), (by show X.N.Nodup; rw [eN]; exact S.nd), fun g hg d' hd' => ?_⟩
          · obtain ⟨v, e⟩ := hff
            exact ⟨rfl, v, e, hz.2.2 v e⟩
          · obtain ⟨hi', f, fd, ps, j, F, hj, hm, hk, hb, hl⟩ := hfs g hg d' hd'
            exact ⟨hi', f, fd, ps, j, F, (show RoomH j (X.A.mark (some (.ref a))) from (⟨hr.dp, hr.un⟩ : RoomH k (X.A.mark (some (.ref a)))).mono hj), hm, hk, hb, hl⟩
        obtain ⟨_, e2⟩ := sQS hx qs _ _ d h7 hu hp hf (fun j d h => (none_env j d h).elim) hq
        refine ⟨fun pins s σ H T I ⟨h0, q⟩ => e2.run pins s σ H T I ⟨?_, h0, fun j d h => (none_env j d h).elim, q⟩⟩
        have := I.len
        rw [this]
        show X.N.length = N.length
        rw [eN]
    · cases hck
  · have : ∃ z', fnB cl fu N.length ps.length body as = some z' := by
      unfold fnT at e
      split at e
      · exact ⟨_, by assumption⟩
      · exact ⟨_, e⟩
    obtain ⟨z', e'⟩ := this
    unfold fnB at e'
    split at e'
    · assumption
    · cases e'
end
end Rk

/-! Rk, part X: texts as lists of signs. -/
namespace Rk
open PySem PySem.Spec PyProof.Rows L2
theorem strsD_S (L : List (List Nat)) : strsD (L.map fun l => PyData.str (SX.S l)) = some (L.map SX.S) := by
  induction L with
  | nil => rfl
  | cons x L ih => rw [List.map_cons, List.map_cons]; show (strsD _).map _ = _; rw [ih]; rfl
theorem sumlen_S (L : List (List Nat)) : ((L.map SX.S).map (·.length)).sum = (L.map (·.length)).sum := by rw [SX.lens]
theorem join_list {L : List (List Nat)} {s : List Nat} (h : (L.map (·.length)).sum + L.length * s.length ≤ 100000) :
    smop .join (SX.S s) (.list (L.map fun l => PyData.str (SX.S l))) = some (.fz (.str (SX.S (TL.joinL s L)))) := by
  show (strsD _).bind _ = _
  rw [strsD_S]
  show (if _ then _ else _) = _
  rw [sumlen_S, List.length_map, SX.S_len, if_pos (decide_eq_true h), SX.join_S]
theorem split_list {a b : List Nat} (hb : b ≠ []) (hk : b.all (· < 256) = true) (hl : a.length ≤ 100000) :
    smop .split (SX.S a) (.str (SX.S b)) = some (.fr (.list ((TL.spl b 0 [] a).map fun l => PyData.str (SX.S l)))) := by
  show (if _ then _ else _) = _
  have h0 : (SX.S b).length ≠ 0 := by
    rw [SX.S_len]
    exact fun z => hb (List.length_eq_zero_iff.mp z)
  rw [if_pos (by rw [SX.S_len, SX.S_len] at *; simp [h0, hl]), SX.split_S hb hk, List.map_map]
  rfl
theorem k_eqT (x y : Str) : cmpop .eq (.str x) (.str y) = some (decide (x = y)) := by
  show (if _ then _ else _) = _
  split
  · congr 1
  · rfl
theorem k_neT (x y : Str) : cmpop .ne (.str x) (.str y) = some (!decide (x = y)) := by
  show (if _ then _ else _) = _
  split
  · congr 1
  · rfl
theorem S_dec {a b : List Nat} : decide (SX.S a = SX.S b) = decide (a = b) := by
  by_cases h : a = b
  · rw [h]; simp
  · rw [decide_eq_false h, decide_eq_false fun z => h (SX.S_inj z)]
theorem k_lenS {a : List Nat} (h : a.length ≤ 100000) : biop .len [.str (SX.S a)] = some (.fz (.int (a.length : Int))) := by
  show (if _ then _ else _) = _
  rw [if_pos (show lenOk (SX.S a).length = true from decide_eq_true (by rw [SX.S_len]; exact h)), SX.S_len]
theorem k_idxS {a : List Nat} {k c : Nat} (h : a.length ≤ 100000) (hk : a[k]? = some c) : idxop (.str (SX.S a)) (.int (k : Int)) = some (.str (SX.S [c])) := by
  show (if _ then _ else _) = _
  rw [if_pos (show lenOk (SX.S a).length = true from decide_eq_true (by rw [SX.S_len]; exact h))]
  have : L2.atI (SX.S a).cps.toList (k : Int) = some c := by
    show L2.atI a (k : Int) = some c
    have hl := (List.getElem?_eq_some_iff.mp hk).1
    unfold L2.atI L2.ixN
    rw [if_pos (by omega), if_pos (by omega)]
    simpa using hk
  rw [this]
  rfl
theorem k_catSS {a b : List Nat} (h : a.length + b.length ≤ 100000) : binop .add (.str (SX.S a)) (.str (SX.S b)) = some (.fz (.str (SX.S (a ++ b)))) := by
  show (if _ then _ else _) = _
  rw [if_pos (show lenOk ((SX.S a).length + (SX.S b).length) = true from decide_eq_true (by rw [SX.S_len, SX.S_len]; exact h)), SX.S_cat]
end Rk

namespace Lk61
open PySem PySem.Spec PyProof.Rows L2 Rk
/-- tidy -/
def e_tidy_1 : E := (.tup (.cons (.var 2) (.cons (.idx (.var 1) (.var 2)) .nil)))
def q_tidy_1 : Es := (.cons (.cmp .ne (.idx (.var 1) (.var 2)) (.lit (.int 0))) .nil)
def b_tidy_1 : Ss := (.cons (.setIx 1 (.var 2) (.bin .add (.met .get (.var 1) (.cons (.var 2) (.cons (.lit (.int 0)) .nil))) (.var 3))) .nil)
def b_tidy : Ss := (.cons (.asg 1 (.dnew false)) (.cons (.fo (.t2 (.nm 2) (.nm 3)) (.seq (.var 0)) b_tidy_1) (.cons (.ret (.comp [2] e_tidy_1 (.nm 2) (.seq (.bi .sorted (.cons (.var 1) .nil))) q_tidy_1)) .nil)))
def c_tidy : Cl := clNil
def f_tidy : Fn := fnB c_tidy 100000 4 1 b_tidy
/-- turned_down -/
def e_turned_down_1 : E := (.tup (.cons (.var 1) (.cons (.bin .sub (.lit (.int 0)) (.var 2)) .nil)))
def b_turned_down : Ss := (.cons (.ret (.comp [1, 2] e_turned_down_1 (.t2 (.nm 1) (.nm 2)) (.seq (.var 0)) .nil)) .nil)
def c_turned_down : Cl := clNil
def f_turned_down : Fn := fnB c_turned_down 100000 3 1 b_turned_down
/-- minus -/
def b_minus : Ss := (.cons (.ret (.call "tidy" (.cons (.bin .add (.var 0) (.call "turned_down" (.cons (.var 1) .nil))) .nil))) .nil)
def c_minus : Cl := (clCons "tidy" f_tidy (clCons "turned_down" f_turned_down clNil))
def f_minus : Fn := fnB c_minus 100000 2 2 b_minus
/-- times -/
def e_times_1 : E := (.tup (.cons (.bin .add (.var 3) (.var 5)) (.cons (.bin .mul (.var 4) (.var 6)) .nil)))
def b_times_1 : Ss := (.cons (.ex (.ext 2 (.comp [5, 6] e_times_1 (.t2 (.nm 5) (.nm 6)) (.seq (.var 1)) .nil))) .nil)
def b_times : Ss := (.cons (.asg 2 (.lst .nil)) (.cons (.fo (.t2 (.nm 3) (.nm 4)) (.seq (.var 0)) b_times_1) (.cons (.ret (.call "tidy" (.cons (.var 2) .nil))) .nil)))
def c_times : Cl := (clCons "tidy" f_tidy clNil)
def f_times : Fn := fnB c_times 100000 7 2 b_times
/-- parted -/
def w_parted_1 : E := (.cmp .ne (.var 2) (.lst .nil))
def b_parted_1 : Ss := (.cons (.unp (.t2 (.nm 7) (.nm 8)) (.idx (.var 2) (.neg (.lit (.int 1))))) (.cons (.asg 6 (.bin .sub (.var 7) (.var 4))) (.cons (.ifs (.or (.cmp .ne (.bin .mod (.var 8) (.var 5)) (.lit (.int 0))) (.cmp .lt (.bin .add (.var 6) (.idx (.idx (.var 1) (.lit (.int 0))) (.lit (.int 0)))) (.idx (.idx (.var 0) (.lit (.int 0))) (.lit (.int 0))))) (.cons (.raise "NoPart") .nil) .nil) (.cons (.ex (.mu .append 3 (.cons (.tup (.cons (.var 6) (.cons (.bin .fdiv (.var 8) (.var 5)) .nil))) .nil))) (.cons (.asg 2 (.call "minus" (.cons (.var 2) (.cons (.call "times" (.cons (.cutL (.var 3) (.neg (.lit (.int 1)))) (.cons (.var 1) .nil))) .nil)))) .nil)))))
def b_parted : Ss := (.cons (.unp (.t2 (.nm 4) (.nm 5)) (.idx (.var 1) (.neg (.lit (.int 1))))) (.cons (.asg 2 (.var 0)) (.cons (.asg 3 (.lst .nil)) (.cons (.whl w_parted_1 b_parted_1) (.cons (.ret (.rev (.var 3))) .nil)))))
def c_parted : Cl := (clCons "minus" f_minus (clCons "times" f_times clNil))
def f_parted : Fn := fnB c_parted 100000 9 2 b_parted
/-- _law_whole -/
def b_law_whole : Ss := (.cons (.ret (.and (.isi .int (.var 0)) (.not (.isi .bool (.var 0))))) .nil)
def c_law_whole : Cl := clNil
def f_law_whole : Fn := fnB c_law_whole 100000 1 1 b_law_whole
/-- _law_is_sum -/
def e_law_is_sum_1 : E := (.cmp .lt (.idx (.var 1) (.lit (.int 0))) (.idx (.var 2) (.lit (.int 0))))
def e_law_is_sum_2 : E := (.cmp .ne (.idx (.var 1) (.lit (.int 1))) (.lit (.int 0)))
def b_law_is_sum_1 : Ss := (.cons (.ifs (.or (.not (.isi .tuple (.var 1))) (.or (.cmp .ne (.bi .len (.cons (.var 1) .nil)) (.lit (.int 2))) (.or (.not (.call "_law_whole" (.cons (.idx (.var 1) (.lit (.int 0))) .nil))) (.not (.call "_law_whole" (.cons (.idx (.var 1) (.lit (.int 1))) .nil)))))) (.cons (.ret (.lit (.bool false))) .nil) .nil) .nil)
def b_law_is_sum : Ss := (.cons (.ifs (.not (.isi .list (.var 0))) (.cons (.ret (.lit (.bool false))) .nil) .nil) (.cons (.fo (.nm 1) (.seq (.var 0)) b_law_is_sum_1) (.cons (.ret (.and (.bi .all (.cons (.comp [1] e_law_is_sum_2 (.nm 1) (.seq (.var 0)) .nil) .nil)) (.bi .all (.cons (.comp [1, 2] e_law_is_sum_1 (.t2 (.nm 1) (.nm 2)) (.zip (.var 0) (.cutL (.var 0) (.lit (.int 1)))) .nil) .nil)))) .nil)))
def c_law_is_sum : Cl := (clCons "_law_whole" f_law_whole clNil)
def f_law_is_sum : Fn := fnB c_law_is_sum 100000 3 1 b_law_is_sum
/-- _law_summed -/
def e_law_summed_1 : E := (.tup (.cons (.var 2) (.cons (.idx (.var 1) (.var 2)) .nil)))
def q_law_summed_1 : Es := (.cons (.cmp .ne (.idx (.var 1) (.var 2)) (.lit (.int 0))) .nil)
def b_law_summed_1 : Ss := (.cons (.setIx 1 (.var 2) (.bin .add (.met .get (.var 1) (.cons (.var 2) (.cons (.lit (.int 0)) .nil))) (.var 3))) .nil)
def b_law_summed : Ss := (.cons (.asg 1 (.dnew false)) (.cons (.fo (.t2 (.nm 2) (.nm 3)) (.seq (.var 0)) b_law_summed_1) (.cons (.ret (.comp [2] e_law_summed_1 (.nm 2) (.seq (.bi .sorted (.cons (.var 1) .nil))) q_law_summed_1)) .nil)))
def c_law_summed : Cl := clNil
def f_law_summed : Fn := fnB c_law_summed 100000 4 1 b_law_summed
/-- _law_product -/
def e_law_product_1 : E := (.tup (.cons (.bin .add (.var 3) (.var 5)) (.cons (.bin .mul (.var 4) (.var 6)) .nil)))
def b_law_product_1 : Ss := (.cons (.ex (.ext 2 (.comp [5, 6] e_law_product_1 (.t2 (.nm 5) (.nm 6)) (.seq (.var 1)) .nil))) .nil)
def b_law_product : Ss := (.cons (.asg 2 (.lst .nil)) (.cons (.fo (.t2 (.nm 3) (.nm 4)) (.seq (.var 0)) b_law_product_1) (.cons (.ret (.call "_law_summed" (.cons (.var 2) .nil))) .nil)))
def c_law_product : Cl := (clCons "_law_summed" f_law_summed clNil)
def f_law_product : Fn := fnB c_law_product 100000 7 2 b_law_product
/-- _law_some -/
def b_law_some_1 : Ss := (.cons (.ex (.mu .append 3 (.cons (.tup (.cons (.bin .sub (.call "_law_take" (.cons (.var 0) (.cons (.idx (.lst (.cons (.lit (.int 7)) (.cons (.lit (.int 61)) .nil))) (.var 2)) .nil))) (.idx (.lst (.cons (.lit (.int 3)) (.cons (.lit (.int 30)) .nil))) (.var 2))) (.cons (.bin .mul (.idx (.lst (.cons (.lit (.int 1)) (.cons (.neg (.lit (.int 1))) .nil))) (.bin .mod (.var 4) (.lit (.int 2)))) (.bin .add (.lit (.int 1)) (.call "_law_take" (.cons (.var 0) (.cons (.lit (.int 9)) .nil))))) .nil))) .nil))) .nil)
def b_law_some : Ss := (.cons (.asg 2 (.call "_law_take" (.cons (.var 0) (.cons (.lit (.int 2)) .nil)))) (.cons (.asg 3 (.lst .nil)) (.cons (.fo (.nm 4) (.rng (.cons (.bin .add (.var 1) (.call "_law_take" (.cons (.var 0) (.cons (.bin .sub (.lit (.int 5)) (.var 1)) .nil)))) .nil)) b_law_some_1) (.cons (.asg 3 (.call "_law_summed" (.cons (.var 3) .nil))) (.cons (.ifs (.and (.cmp .eq (.var 3) (.lst .nil)) (.cmp .gt (.var 1) (.lit (.int 0)))) (.cons (.ret (.lst (.cons (.tup (.cons (.lit (.int 2)) (.cons (.neg (.lit (.int 1))) .nil))) .nil))) .nil) .nil) (.cons (.ret (.var 3)) .nil))))))
def c_law_some : Cl := (clCons "_law_summed" f_law_summed (clCons "_law_take" f_law_take clNil))
def f_law_some : Fn := fnB c_law_some 100000 5 2 b_law_some
/-- _law_upward -/
def e_law_upward_1 : E := (.idx (.var 2) (.var 8))
def b_law_upward_1 : Ss := (.cons (.setIx 2 (.bin .add (.var 4) (.var 8)) (.bin .sub (.met .get (.var 2) (.cons (.bin .add (.var 4) (.var 8)) (.cons (.lit (.int 0)) .nil))) (.bin .mul (.bin .fdiv (.var 7) (.var 6)) (.var 9)))) .nil)
def b_law_upward_2 : Ss := (.cons (.asg 7 (.met .get (.var 2) (.cons (.bin .add (.var 4) (.var 5)) (.cons (.lit (.int 0)) .nil)))) (.cons (.ifs (.cmp .ne (.bin .mod (.var 7) (.var 6)) (.lit (.int 0))) (.cons (.ret (.lit .none)) .nil) .nil) (.cons (.ifs (.cmp .ne (.var 7) (.lit (.int 0))) (.cons (.ex (.mu .append 3 (.cons (.tup (.cons (.var 4) (.cons (.bin .fdiv (.var 7) (.var 6)) .nil))) .nil))) (.cons (.fo (.t2 (.nm 8) (.nm 9)) (.seq (.var 1)) b_law_upward_1) .nil)) .nil) .nil)))
def b_law_upward : Ss := (.cons (.asg 2 (.bi .toDict (.cons (.var 0) .nil))) (.cons (.unp (.t2 (.nm 5) (.nm 6)) (.idx (.var 1) (.lit (.int 0)))) (.cons (.asg 3 (.lst .nil)) (.cons (.ifs (.cmp .eq (.var 0) (.lst .nil)) (.cons (.ret (.var 3)) .nil) .nil) (.cons (.fo (.nm 4) (.rng (.cons (.bin .sub (.idx (.idx (.var 0) (.lit (.int 0))) (.lit (.int 0))) (.var 5)) (.cons (.bin .add (.bin .sub (.idx (.idx (.var 0) (.neg (.lit (.int 1)))) (.lit (.int 0))) (.idx (.idx (.var 1) (.neg (.lit (.int 1)))) (.lit (.int 0)))) (.lit (.int 1))) .nil))) b_law_upward_2) (.cons (.ret (.idx (.lst (.cons (.lit .none) (.cons (.var 3) .nil))) (.bi .toInt (.cons (.not (.bi .anyI (.cons (.comp [8] e_law_upward_1 (.nm 8) (.seq (.var 2)) .nil) .nil))) .nil)))) .nil))))))
def c_law_upward : Cl := clNil
def f_law_upward : Fn := fnB c_law_upward 100000 10 2 b_law_upward
/-- _law_said -/
def b_law_said : Ss := (.cons (.ret (.call "parted" (.cons (.var 0) (.cons (.var 1) .nil)))) .nil)
def c_law_said : Cl := (clCons "parted" f_parted clNil)
abbrev h_law_said : String → Option D := fun s => if s = "NoPart" then some (.int 3) else none
def f_law_said : Fn := fnT h_law_said (fnB c_law_said 100000 3 2 b_law_said)
/-- _law_right -/
def b_law_right_1 : Ss := (.cons (.asg 5 (.call "_law_said" (.cons (.idx (.var 3) (.lit (.int 0))) (.cons (.idx (.var 3) (.lit (.int 1))) .nil)))) (.cons (.ifs (.cmp .ne (.var 3) (.lst (.cons (.var 0) (.cons (.var 1) .nil)))) (.cons (.ret (.lit (.bool false))) .nil) .nil) (.cons (.ifs (.cmp .isN (.var 2) (.lit .none)) (.cons (.ifs (.cmp .ne (.var 5) (.lit (.int 3))) (.cons (.ret (.lit (.bool false))) .nil) .nil) .nil) (.cons (.ifs (.or (.not (.call "_law_is_sum" (.cons (.var 5) .nil))) (.or (.cmp .ne (.var 5) (.var 2)) (.cmp .ne (.call "times" (.cons (.var 5) (.cons (.bi .toList (.cons (.var 1) .nil)) .nil))) (.var 0)))) (.cons (.ret (.lit (.bool false))) .nil) (.cons (.ex (.mu .append 5 (.cons (.tup (.cons (.lit (.int 99)) (.cons (.lit (.int 1)) .nil))) .nil))) .nil)) .nil)) .nil)))
def b_law_right : Ss := (.cons (.asg 2 (.call "_law_upward" (.cons (.var 0) (.cons (.var 1) .nil)))) (.cons (.asg 3 (.lst (.cons (.bi .toList (.cons (.var 0) .nil)) (.cons (.bi .toList (.cons (.var 1) .nil)) .nil)))) (.cons (.fo (.nm 4) (.rng (.cons (.lit (.int 2)) .nil)) b_law_right_1) (.cons (.ret (.lit (.bool true))) .nil))))
def c_law_right : Cl := (clCons "times" f_times (clCons "_law_is_sum" f_law_is_sum (clCons "_law_said" f_law_said (clCons "_law_upward" f_law_upward clNil))))
def f_law_right : Fn := fnB c_law_right 100000 6 2 b_law_right
/-- _law_long_row -/
def b_law_long_row : Ss := (.cons (.asg 1 (.bin .add (.lit (.int 1)) (.call "_law_take" (.cons (.var 0) (.cons (.lit (.int 3)) .nil))))) (.cons (.asg 2 (.bin .add (.lit (.int 1)) (.call "_law_take" (.cons (.var 0) (.cons (.bin .fdiv (.lit (.int 120)) (.var 1)) .nil))))) (.cons (.asg 3 (.bin .sub (.call "_law_take" (.cons (.var 0) (.cons (.bin .sub (.lit (.int 121)) (.bin .mul (.var 1) (.var 2))) .nil))) (.lit (.int 60)))) (.cons (.asg 4 (.bin .mul (.idx (.lst (.cons (.lit (.int 1)) (.cons (.neg (.lit (.int 1))) .nil))) (.call "_law_take" (.cons (.var 0) (.cons (.lit (.int 2)) .nil)))) (.bin .add (.lit (.int 1)) (.call "_law_take" (.cons (.var 0) (.cons (.lit (.int 9)) .nil)))))) (.cons (.asg 5 (.bin .add (.lit (.int 1)) (.call "_law_take" (.cons (.var 0) (.cons (.lit (.int 9)) .nil))))) (.cons (.asg 6 (.bin .sub (.call "_law_take" (.cons (.var 0) (.cons (.lit (.int 5)) .nil))) (.lit (.int 2)))) (.cons (.ret (.tup (.cons (.lst (.cons (.tup (.cons (.var 3) (.cons (.bin .sub (.lit (.int 0)) (.bin .mul (.var 4) (.var 5))) .nil))) (.cons (.tup (.cons (.bin .add (.var 3) (.bin .mul (.var 1) (.var 2))) (.cons (.bin .mul (.var 4) (.var 5)) .nil))) .nil))) (.cons (.lst (.cons (.tup (.cons (.var 6) (.cons (.bin .sub (.lit (.int 0)) (.var 4)) .nil))) (.cons (.tup (.cons (.bin .add (.var 6) (.var 1)) (.cons (.var 4) .nil))) .nil))) .nil)))) .nil)))))))
def c_law_long_row : Cl := (clCons "_law_take" f_law_take clNil)
def f_law_long_row : Fn := fnB c_law_long_row 100000 7 1 b_law_long_row
/-- _law_many -/
def e_law_many_1 : E := (.tup (.cons (.bin .add (.var 2) (.var 6)) (.cons (.var 8) .nil)))
def e_law_many_2 : E := (.tup (.cons (.bin .add (.var 2) (.var 7)) (.cons (.bin .mul (.var 8) (.var 4)) .nil)))
def b_law_many_1 : Ss := (.cons (.asg 2 (.bin .add (.bin .add (.var 2) (.lit (.int 1))) (.call "_law_take" (.cons (.var 0) (.cons (.lit (.int 3)) .nil))))) (.cons (.ex (.mu .append 1 (.cons (.tup (.cons (.var 2) (.cons (.bin .mul (.idx (.lst (.cons (.lit (.int 1)) (.cons (.neg (.lit (.int 1))) .nil))) (.call "_law_take" (.cons (.var 0) (.cons (.lit (.int 2)) .nil)))) (.bin .add (.lit (.int 1)) (.call "_law_take" (.cons (.var 0) (.cons (.lit (.int 9)) .nil))))) .nil))) .nil))) .nil))
def b_law_many : Ss := (.cons (.asg 1 (.lst (.cons (.tup (.cons (.lit (.int 0)) (.cons (.bin .add (.lit (.int 1)) (.call "_law_take" (.cons (.var 0) (.cons (.lit (.int 9)) .nil)))) .nil))) .nil))) (.cons (.asg 2 (.lit (.int 0))) (.cons (.fo (.nm 3) (.rng (.cons (.call "_law_take" (.cons (.var 0) (.cons (.lit (.int 20)) .nil))) .nil)) b_law_many_1) (.cons (.unp (.t2 (.nm 6) (.nm 7)) (.tup (.cons (.bin .sub (.call "_law_take" (.cons (.var 0) (.cons (.lit (.int 31)) .nil))) (.lit (.int 30))) (.cons (.bin .sub (.call "_law_take" (.cons (.var 0) (.cons (.lit (.int 31)) .nil))) (.lit (.int 30))) .nil)))) (.cons (.asg 4 (.bin .mul (.idx (.lst (.cons (.lit (.int 1)) (.cons (.neg (.lit (.int 1))) .nil))) (.call "_law_take" (.cons (.var 0) (.cons (.lit (.int 2)) .nil)))) (.bin .add (.lit (.int 1)) (.call "_law_take" (.cons (.var 0) (.cons (.lit (.int 9)) .nil)))))) (.cons (.asg 5 (.comp [2, 8] e_law_many_2 (.t2 (.nm 2) (.nm 8)) (.seq (.var 1)) .nil)) (.cons (.ret (.tup (.cons (.var 5) (.cons (.comp [2, 8] e_law_many_1 (.t2 (.nm 2) (.nm 8)) (.seq (.var 1)) .nil) .nil)))) .nil)))))))
def c_law_many : Cl := (clCons "_law_take" f_law_take clNil)
def f_law_many : Fn := fnB c_law_many 100000 9 1 b_law_many
/-- law -/
def b_law_1 : Ss := (.cons (.asg 2 (.call "_law_bag" (.cons (.var 0) (.cons (.var 1) .nil)))) (.cons (.asg 3 (.call "_law_take" (.cons (.var 2) (.cons (.lit (.int 6)) .nil)))) (.cons (.ifs (.cmp .gt (.var 3) (.lit (.int 3))) (.cons (.unp (.t2 (.nm 6) (.nm 5)) (.ife (.cmp .eq (.var 3) (.lit (.int 4))) (.call "_law_long_row" (.cons (.var 2) .nil)) (.call "_law_many" (.cons (.var 2) .nil)))) (.cons (.ifs (.or (.not (.call "_law_right" (.cons (.var 6) (.cons (.var 5) .nil)))) (.not (.call "_law_right" (.cons (.cutL (.var 6) (.lit (.int 1))) (.cons (.var 5) .nil))))) (.cons (.ret (.lit (.bool false))) .nil) .nil) (.cons (.cont) .nil))) .nil) (.cons (.asg 4 (.tup (.cons (.bin .sub (.call "_law_take" (.cons (.var 2) (.cons (.lit (.int 121)) .nil))) (.lit (.int 60))) (.cons (.bin .mul (.idx (.lst (.cons (.lit (.int 1)) (.cons (.neg (.lit (.int 1))) .nil))) (.call "_law_take" (.cons (.var 2) (.cons (.lit (.int 2)) .nil)))) (.bin .add (.lit (.int 1)) (.call "_law_take" (.cons (.var 2) (.cons (.lit (.int 9)) .nil))))) .nil)))) (.cons (.asg 5 (.call "_law_some" (.cons (.var 2) (.cons (.lit (.int 1)) .nil)))) (.cons (.asg 6 (.call "_law_product" (.cons (.call "_law_some" (.cons (.var 2) (.cons (.lit (.int 0)) .nil))) (.cons (.var 5) .nil)))) (.cons (.ifs (.cmp .gt (.var 3) (.lit (.int 1))) (.cons (.asg 6 (.call "_law_summed" (.cons (.bin .add (.var 6) (.lst (.cons (.var 4) .nil))) .nil))) .nil) .nil) (.cons (.ifs (.cmp .eq (.var 3) (.lit (.int 1))) (.cons (.asg 5 (.call "_law_some" (.cons (.var 2) (.cons (.lit (.int 1)) .nil)))) .nil) .nil) (.cons (.ifs (.or (.not (.call "_law_right" (.cons (.var 6) (.cons (.var 5) .nil)))) (.not (.call "_law_right" (.cons (.lst .nil) (.cons (.var 5) .nil))))) (.cons (.ret (.lit (.bool false))) .nil) .nil) .nil)))))))))
def b_law : Ss := (.cons (.fo (.nm 1) (.rng (.cons (.lit (.int 3)) .nil)) b_law_1) (.cons (.ret (.lit (.bool true))) .nil))
def c_law : Cl := (clCons "_law_right" f_law_right (clCons "_law_some" f_law_some (clCons "_law_summed" f_law_summed (clCons "_law_product" f_law_product (clCons "_law_take" f_law_take (clCons "_law_long_row" f_law_long_row (clCons "_law_many" f_law_many (clCons "_law_bag" f_law_bag clNil))))))))
def f_law : Fn := fnB c_law 100000 7 1 b_law
/-! ### sums: what a dict of them holds -/
def pD (z : Int × Int) : D := .tuple [.int z.1, .int z.2]
def coef (L : List (Int × Int)) (k : Int) : Int := (L.map fun z => if z.1 = k then z.2 else 0).sum
theorem coef_snoc (L : List (Int × Int)) (z : Int × Int) (k : Int) : coef (L ++ [z]) k = coef L k + if z.1 = k then z.2 else 0 := by
  unfold coef
  rw [List.map_append, List.sum_append]
  simp
def ksD (L : List (Int × Int)) : List Int := L.foldl (fun acc z => if z.1 ∈ acc then acc else acc ++ [z.1]) []
theorem ksD_snoc (L : List (Int × Int)) (z : Int × Int) : ksD (L ++ [z]) = if z.1 ∈ ksD L then ksD L else ksD L ++ [z.1] := by
  unfold ksD
  rw [List.foldl_append]
  rfl
theorem snoc_ind {α : Type} {P : List α → Prop} (h0 : P []) (h1 : ∀ l a, P l → P (l ++ [a])) : ∀ l, P l := fun l => by
  have : ∀ r : List α, P r.reverse := fun r => by
    induction r with
    | nil => exact h0
    | cons a r ih => rw [List.reverse_cons]; exact h1 _ _ ih
  have := this l.reverse
  rw [List.reverse_reverse] at this
  exact this
theorem ksD_nodup : ∀ L, (ksD L).Nodup := snoc_ind List.nodup_nil fun L z ih => by
  rw [ksD_snoc]
  split
  · exact ih
  · rename_i h
    rw [List.nodup_append]
    refine ⟨ih, by simp, fun a ha b hb => ?_⟩
    rw [List.mem_singleton] at hb
    subst hb
    intro e
    exact h (e ▸ ha)
theorem ksD_mem : ∀ (L : List (Int × Int)) (k : Int), k ∈ ksD L ↔ ∃ z ∈ L, z.1 = k := fun L k => by
  refine snoc_ind (P := fun L => k ∈ ksD L ↔ ∃ z ∈ L, z.1 = k) (by simp [ksD]) (fun L z ih => ?_) L
  rw [ksD_snoc]
  by_cases h : z.1 ∈ ksD L
  · rw [if_pos h, ih]
    constructor
    · rintro ⟨y, hy, e⟩
      exact ⟨y, List.mem_append_left _ hy, e⟩
    · rintro ⟨y, hy, e⟩
      rcases List.mem_append.mp hy with hy | hy
      · exact ⟨y, hy, e⟩
      · rw [List.mem_singleton] at hy
        subst hy
        exact ih.mp (by rw [← e]; exact h)
  · rw [if_neg h, List.mem_append, ih, List.mem_singleton]
    constructor
    · rintro (⟨y, hy, e⟩ | e)
      · exact ⟨y, List.mem_append_left _ hy, e⟩
      · exact ⟨z, List.mem_append_right _ (by simp), e.symm⟩
    · rintro ⟨y, hy, e⟩
      rcases List.mem_append.mp hy with hy | hy
      · exact .inl ⟨y, hy, e⟩
      · rw [List.mem_singleton] at hy
        subst hy
        exact .inr e.symm
theorem ksD_len (L : List (Int × Int)) : (ksD L).length ≤ L.length := by
  refine snoc_ind (P := fun L => (ksD L).length ≤ L.length) (Nat.le_refl _) (fun L z ih => ?_) L
  rw [ksD_snoc, List.length_append]
  split
  · exact Nat.le_trans ih (Nat.le_add_right _ _)
  · rw [List.length_append]
    exact Nat.add_le_add_right ih 1
theorem coef_none {L : List (Int × Int)} {k : Int} (h : k ∉ ksD L) : coef L k = 0 := by
  have h2 : ∀ z ∈ L, ¬ z.1 = k := fun z hz e => h ((ksD_mem L k).mpr ⟨z, hz, e⟩)
  unfold coef
  have : (L.map fun z => if z.1 = k then z.2 else 0) = L.map fun _ => 0 := List.map_congr_left fun z hz => if_neg (h2 z hz)
  rw [this]
  clear h h2 this
  induction L with
  | nil => rfl
  | cons z L ih => simpa using ih
def dictD (L : List (Int × Int)) : List (D × D) := (ksD L).map fun k => (PyData.int k, PyData.int (coef L k))
theorem dictD_isT (L : List (Int × Int)) : isT (dictD L) = false := by
  unfold dictD
  cases ksD L <;> rfl
theorem dictD_find (L : List (Int × Int)) (p : Int) : dFind (dictD L) (.int p) = if p ∈ ksD L then some (.int (coef L p)) else none := by
  unfold dFind dictD
  generalize coef L = c
  induction ksD L with
  | nil => rfl
  | cons k ks ih =>
    rw [List.map_cons, List.find?_cons]
    by_cases h : k = p
    · subst h
      simp [PyData.eqv]
    · have h2 : ¬ p = k := fun e => h e.symm
      have : PyData.eqv (.int k) (.int p) = false := by simp [PyData.eqv, h]
      simp only [this]
      rw [ih]
      simp [h2]
theorem dictD_fit (L : List (Int × Int)) (p : Int) : keyFit (dictD L) (.int p) = true := by
  unfold keyFit
  rw [dictD_isT]
  rfl
theorem dictD_get (L : List (Int × Int)) (p : Int) : metop .get (.dict (dictD L)) [.int p, .int 0] = some (.fz (.int (coef L p))) := by
  show (if keyFit (dictD L) (.int p) && flatD (.int 0) then some (RV.fz ((dFind (dictD L) (.int p)).getD (.int 0))) else none) = _
  rw [dictD_fit, dictD_find]
  by_cases h : p ∈ ksD L
  · rw [if_pos h]; rfl
  · rw [if_neg h, coef_none h]; rfl
theorem dictD_idx {L : List (Int × Int)} {p : Int} (h : p ∈ ksD L) : idxop (.dict (dictD L)) (.int p) = some (.int (coef L p)) := by
  show (if keyFit (dictD L) (.int p) then dFind (dictD L) (.int p) else none) = _
  rw [dictD_fit, dictD_find, if_pos h]
  rfl
theorem dictD_set (L : List (Int × Int)) (p m : Int) (hl : L.length ≤ 100000) : setD (.dict (dictD L)) (.int p) (.int (coef L p + m)) = some (.dict (dictD (L ++ [(p, m)]))) := by
  have h1 : lenOk (dictD L).length = true := decide_eq_true (by
    unfold dictD
    rw [List.length_map]
    exact Nat.le_trans (ksD_len L) hl)
  show (if keyFit (dictD L) (.int p) && lenOk (dictD L).length then some (PyData.dict (dPut (dictD L) (.int p) (.int (coef L p + m)))) else none) = _
  rw [dictD_fit, h1]
  show some (PyData.dict (dPut (dictD L) (.int p) (.int (coef L p + m)))) = _
  congr 2
  unfold dPut
  rw [dictD_find]
  by_cases h : p ∈ ksD L
  · rw [if_pos h, if_pos (show (some (PyData.int (coef L p))).isSome = true from rfl)]
    unfold dictD
    rw [ksD_snoc, if_pos h, List.map_map]
    refine List.map_congr_left fun k hk => ?_
    show (if PyData.eqv (.int k) (.int p) = true then (PyData.int k, PyData.int (coef L p + m)) else (PyData.int k, PyData.int (coef L k))) = _
    rw [coef_snoc]
    by_cases e : k = p
    · subst e
      simp [PyData.eqv]
    · have e2 : ¬ p = k := fun z => e z.symm
      simp [PyData.eqv, e, e2]
  · rw [if_neg h, if_neg (by simp)]
    unfold dictD
    rw [ksD_snoc, if_neg h, List.map_append]
    congr 1
    · refine List.map_congr_left fun k hk => ?_
      rw [coef_snoc, if_neg (fun (e : p = k) => h (by rw [e]; exact hk)), Int.add_zero]
    · rw [List.map_cons, List.map_nil, coef_snoc, if_pos rfl]
/-- the powers, rising -/
def sk (L : List (Int × Int)) : List Int := (ksD L).mergeSort (fun a b => decide (a ≤ b))
theorem sk_perm (L : List (Int × Int)) : (sk L).Perm (ksD L) := List.mergeSort_perm _ _
theorem sk_up (L : List (Int × Int)) : (sk L).Pairwise (· < ·) := by
  have h1 : (sk L).Pairwise (fun a b => decide (a ≤ b) = true) := List.pairwise_mergeSort (fun a b c h h' => by simp only [decide_eq_true_eq] at *; omega) (fun a b => by simp only [Bool.or_eq_true, decide_eq_true_eq]; omega) _
  have h2 : (sk L).Nodup := (sk_perm L).nodup_iff.mpr (ksD_nodup L)
  have h3 := h1.and (List.nodup_iff_pairwise_ne.mp h2)
  exact h3.imp fun {a b} h => by
    have := of_decide_eq_true h.1
    have := h.2
    omega
theorem sk_mem {L : List (Int × Int)} {k : Int} : k ∈ sk L ↔ k ∈ ksD L := (sk_perm L).mem_iff
theorem sk_len (L : List (Int × Int)) : (sk L).length ≤ L.length := by
  rw [(sk_perm L).length_eq]
  exact ksD_len L
theorem ints_sort {p q : List Int} (h : p.Perm q) (hq : q.Pairwise (· ≤ ·)) : sortD (p.map .int) = q.map .int :=
  sortD_uniq (List.Perm.map _ h) (List.pairwise_map.mpr (hq.imp fun {a b} z => by rw [leD_int]; exact decide_eq_true z)) (.inl fun x hx => by
    obtain ⟨i, _, rfl⟩ := List.mem_map.mp hx
    exact ⟨i, rfl⟩)
theorem ints_ok {p : List Int} (h : p.length ≤ 100000) : sortOk (p.map PyData.int) = true := int_sortOk (fun x hx => by
  obtain ⟨i, _, rfl⟩ := List.mem_map.mp hx
  exact ⟨i, rfl⟩) (by rw [List.length_map]; exact h)
theorem dictD_sort (L : List (Int × Int)) (hl : L.length ≤ 100000) : biop .sorted [.dict (dictD L)] = some (.fr (.list ((sk L).map .int))) := by
  have hk : dKeys (dictD L) = (ksD L).map .int := by
    unfold dKeys
    have : dBody (dictD L) = dictD L := by
      unfold dictD
      cases ksD L <;> rfl
    rw [this]
    unfold dictD
    rw [List.map_map]
    rfl
  show (if sortOk (dKeys (dictD L)) then some (RV.fr (.list (sortD (dKeys (dictD L))))) else none) = _
  rw [hk, ints_ok (Nat.le_trans (ksD_len L) hl), ints_sort (sk_perm L).symm ((sk_up L).imp fun h => Int.le_of_lt h)]
  rfl
/-- the sum made of tuples -/
def tz (L : List (Int × Int)) : List (Int × Int) := ((sk L).filter fun k => !decide (coef L k = 0)).map fun k => (k, coef L k)
theorem tz_len (L : List (Int × Int)) : (tz L).length ≤ L.length := by
  unfold tz
  rw [List.length_map]
  exact Nat.le_trans (List.length_filter_le _ _) (sk_len L)
theorem tz_nz (L : List (Int × Int)) : ∀ z ∈ tz L, z.2 ≠ 0 := fun z hz => by
  obtain ⟨k, hk, rfl⟩ := List.mem_map.mp hz
  simpa using (List.mem_filter.mp hk).2
theorem tz_up (L : List (Int × Int)) : (tz L).Pairwise (fun a b => a.1 < b.1) := List.pairwise_map.mpr (List.Pairwise.sublist List.filter_sublist (sk_up L))
theorem tidy_comp {L : List (Int × Int)} {x s3 : Sl} (hl : L.length ≤ 100000) :
    compL [0] [2] (.nm 2) (evTs c_tidy [0] q_tidy_1) (fun r => cpo (evE c_tidy [0] e_tidy_1 r)) ((sk L).map .int) [] [x, .ow (.dict (dictD L)), .un, s3] = .ok ((tz L).map pD) [x, .ow (.dict (dictD L)), .un, s3] := by
  have key := compL_map (pr := [0]) (own := [2]) (tg := .nm 2) (test := evTs c_tidy [0] q_tidy_1) (elt := fun r => cpo (evE c_tidy [0] e_tidy_1 r)) (r := [x, .ow (.dict (dictD L)), .un, s3])
    (f := fun d => match d with | .int k => pD (k, coef L k) | d => d) (p := fun d => match d with | .int k => !decide (coef L k = 0) | _ => true) (ds := (sk L).map .int) (acc := []) (fun d hd => by
    obtain ⟨k, hk, rfl⟩ := List.mem_map.mp hd
    have hix := dictD_idx (sk_mem.mp hk)
    refine ⟨[x, .ow (.dict (dictD L)), .fz (.int k), s3], [x, .ow (.dict (dictD L)), .fz (.int k), s3], by simp [bindT, setSl], ?_, (fun h => ⟨by simp [noLk], by simp [wipeR]⟩), fun _ => ⟨[x, .ow (.dict (dictD L)), .fz (.int k), s3], ?_, by simp [noLk], by simp [wipeR]⟩⟩
    · generalize dictD L = dd at hix
      show _ = O.ok (!decide (coef L k = 0)) _
      generalize coef L k = c at hix
      unfold q_tidy_1
      simp [p_rd, p_cpo, p_cap, p_st, p_ret, p_arg, p_pk, p_bk, p_lo, p_lk, p_ul, rds, argsOf, setSl, lenOk, exS, exSs, evE, evSs, evCs, evAs, evTs, evI, protOf, outsOf, runF, fnB, Arg.sl, setAt, clCons, clNil, kdIs, isDict, k_bind, k_bindX, k_lift, k_stl1, k_stl2, k_stl3, k_cpo1, k_cpo2, k_rd1, k_rd2, k_bool, k_int, k_lit, k_add, k_sub, k_mul, k_mod, k_fdiv, k_pow, k_catL, k_catT, k_lt, k_le, k_gt, k_ge, k_eqI, k_neI, k_eqB, k_eq, k_ne, k_idxL, k_idxT, k_at, k_at0, k_at1, k_ix, k_lenL, k_lenT, k_abs, k_min, k_max, k_toL, k_toLT, k_toT, k_toTT, k_toI, k_toIB, k_sum, k_all, k_any, k_rng1, k_rng2, k_st1, k_st2, k_ret1, k_ret2, k_arg1, k_arg2, k_pk0, k_pk1, k_pk2, k_bk0, k_bk1, k_bk2, k_nd0, k_nd1, k_unl, k_lk0, k_ul0, k_lo1, k_sqL, k_sqT, k_app, k_clear, k_popAt, k_setD, k_setD0, k_setD1, dupV, hix]
    · generalize dictD L = dd at hix
      show _ = O.ok (pD (k, coef L k)) _
      generalize coef L k = c at hix
      unfold e_tidy_1 pD
      simp [p_rd, p_cpo, p_cap, p_st, p_ret, p_arg, p_pk, p_bk, p_lo, p_lk, p_ul, rds, argsOf, setSl, lenOk, exS, exSs, evE, evSs, evCs, evAs, evTs, evI, protOf, outsOf, runF, fnB, Arg.sl, setAt, clCons, clNil, kdIs, isDict, k_bind, k_bindX, k_lift, k_stl1, k_stl2, k_stl3, k_cpo1, k_cpo2, k_rd1, k_rd2, k_bool, k_int, k_lit, k_add, k_sub, k_mul, k_mod, k_fdiv, k_pow, k_catL, k_catT, k_lt, k_le, k_gt, k_ge, k_eqI, k_neI, k_eqB, k_eq, k_ne, k_idxL, k_idxT, k_at, k_at0, k_at1, k_ix, k_lenL, k_lenT, k_abs, k_min, k_max, k_toL, k_toLT, k_toT, k_toTT, k_toI, k_toIB, k_sum, k_all, k_any, k_rng1, k_rng2, k_st1, k_st2, k_ret1, k_ret2, k_arg1, k_arg2, k_pk0, k_pk1, k_pk2, k_bk0, k_bk1, k_bk2, k_nd0, k_nd1, k_unl, k_lk0, k_ul0, k_lo1, k_sqL, k_sqT, k_app, k_clear, k_popAt, k_setD, k_setD0, k_setD1, dupV, hix]) (by
    have := sk_len L
    simp only [List.length_nil, List.length_map]
    omega)
  rw [key, List.nil_append]
  congr 1
  unfold tz
  rw [List.filter_map, List.map_map, List.map_map]
  rfl
theorem tidy_eq {L : List (Int × Int)} (hl : L.length ≤ 100000) : f_tidy [.ow (.list (L.map pD))] = some (.val (.ow (.list ((tz L).map pD))), [.ow (.list (L.map pD))]) := by
  obtain ⟨r', e, s2, s3, rfl, q2, q3⟩ := forN (pr := [0]) (tg := .t2 (.nm 2) (.nm 3)) (body := exSs c_tidy [0] 100000 b_tidy_1) (ds := L.map pD) (r := [.lk (.list (L.map pD)), .ow (.dict []), .un, .un])
    (fun i r => ∃ s2 s3, r = [.lk (.list (L.map pD)), .ow (.dict (dictD (L.take i))), s2, s3] ∧ Fzu s2 ∧ Fzu s3) ⟨.un, .un, rfl, .inl rfl, .inl rfl⟩ (fun i d r hd ⟨s2, s3, hr, q2, q3⟩ => by
      subst hr
      rw [List.getElem?_map] at hd
      obtain ⟨z, hz, rfl⟩ := Option.map_eq_some_iff.mp hd
      have hnx : L.take (i + 1) = L.take i ++ [z] := by
        rw [List.take_succ, hz]
        rfl
      have htl : (L.take i).length ≤ 100000 := by rw [List.length_take]; omega
      have hg := dictD_get (L.take i) z.1
      have hs := dictD_set (L.take i) z.1 z.2 htl
      rw [← show z = (z.1, z.2) from rfl, ← hnx] at hs
      generalize L.take i = L0 at *
      generalize L.take (i + 1) = L1 at *
      refine ⟨[.lk (.list (L.map pD)), .ow (.dict (dictD L0)), .fz (.int z.1), .fz (.int z.2)], ?_, [.lk (.list (L.map pD)), .ow (.dict (dictD L1)), .fz (.int z.1), .fz (.int z.2)], ?_, .fz (.int z.1), .fz (.int z.2), rfl, .inr ⟨_, rfl⟩, .inr ⟨_, rfl⟩⟩
      · rcases q2 with rfl | ⟨d, rfl⟩ <;> rcases q3 with rfl | ⟨d, rfl⟩ <;> simp [bindT, setSl, pD]
      · generalize dictD L0 = d0 at *
        generalize dictD L1 = d1 at *
        generalize coef L0 z.1 = c0 at *
        unfold b_tidy_1 c_tidy
        simp [p_rd, p_cpo, p_cap, p_st, p_ret, p_arg, p_pk, p_bk, p_lo, p_lk, p_ul, rds, argsOf, setSl, lenOk, exS, exSs, evE, evSs, evCs, evAs, evTs, evI, protOf, outsOf, runF, fnB, Arg.sl, setAt, clCons, clNil, kdIs, isDict, k_bind, k_bindX, k_lift, k_stl1, k_stl2, k_stl3, k_cpo1, k_cpo2, k_rd1, k_rd2, k_bool, k_int, k_lit, k_add, k_sub, k_mul, k_mod, k_fdiv, k_pow, k_catL, k_catT, k_lt, k_le, k_gt, k_ge, k_eqI, k_neI, k_eqB, k_eq, k_ne, k_idxL, k_idxT, k_at, k_at0, k_at1, k_ix, k_lenL, k_lenT, k_abs, k_min, k_max, k_toL, k_toLT, k_toT, k_toTT, k_toI, k_toIB, k_sum, k_all, k_any, k_rng1, k_rng2, k_st1, k_st2, k_ret1, k_ret2, k_arg1, k_arg2, k_pk0, k_pk1, k_pk2, k_bk0, k_bk1, k_bk2, k_nd0, k_nd1, k_unl, k_lk0, k_ul0, k_lo1, k_sqL, k_sqT, k_app, k_clear, k_popAt, k_setD, k_setD0, k_setD1, dupV, hg, hs, sameK])
  rw [List.length_map, List.take_length] at e
  have hc := tidy_comp (L := L) (x := .ow (.list (L.map pD))) (s3 := s3) hl
  have hs := dictD_sort L hl
  generalize dictD L = dd at *
  unfold f_tidy b_tidy
  unfold c_tidy at *
  rcases q2 with rfl | ⟨d, rfl⟩ <;> simp [p_rd, p_cpo, p_cap, p_st, p_ret, p_arg, p_pk, p_bk, p_lo, p_lk, p_ul, rds, argsOf, setSl, lenOk, exS, exSs, evE, evSs, evCs, evAs, evTs, evI, protOf, outsOf, runF, fnB, Arg.sl, setAt, clCons, clNil, kdIs, isDict, k_bind, k_bindX, k_lift, k_stl1, k_stl2, k_stl3, k_cpo1, k_cpo2, k_rd1, k_rd2, k_bool, k_int, k_lit, k_add, k_sub, k_mul, k_mod, k_fdiv, k_pow, k_catL, k_catT, k_lt, k_le, k_gt, k_ge, k_eqI, k_neI, k_eqB, k_eq, k_ne, k_idxL, k_idxT, k_at, k_at0, k_at1, k_ix, k_lenL, k_lenT, k_abs, k_min, k_max, k_toL, k_toLT, k_toT, k_toTT, k_toI, k_toIB, k_sum, k_all, k_any, k_rng1, k_rng2, k_st1, k_st2, k_ret1, k_ret2, k_arg1, k_arg2, k_pk0, k_pk1, k_pk2, k_bk0, k_bk1, k_bk2, k_nd0, k_nd1, k_unl, k_lk0, k_ul0, k_lo1, k_sqL, k_sqT, k_app, k_clear, k_popAt, k_setD, k_setD0, k_setD1, dupV, e, hs, hc, wipeOk, wipeR, backR]
theorem pD_itup (z : Int × Int) : ITup (pD z) := ⟨z.1, [z.2], rfl⟩
theorem pL_isI (L : List (Int × Int)) : isIs (L.map pD) = true := itup_isIs fun x hx => by
  obtain ⟨z, _, rfl⟩ := List.mem_map.mp hx
  exact pD_itup z
theorem pL_shp (L : List (Int × Int)) : ∀ x ∈ L.map pD, Shp 1 x := fun x hx => by
  obtain ⟨z, _, rfl⟩ := List.mem_map.mp hx
  exact (pD_itup z).shp
theorem pL_sh (L : List (Int × Int)) : shapedD (.list (L.map pD)) = true := (shp_list (pL_shp L)).sh (by decide)
theorem whole_eq (i : Int) : f_law_whole [.fz (.int i)] = some (.val (.fz (.bool true)), [.fz (.int i)]) := rfl
theorem zip_p : ∀ (T U : List (Int × Int)), zipD (T.map pD) (U.map pD) = (T.zip U).map fun z => PyData.tuple [pD z.1, pD z.2]
  | [], _ => by simp [zipD]
  | _ :: _, [] => by simp [zipD]
  | t :: T, u :: U => by simp [zipD, zip_p T U]
theorem zip_lt : ∀ {S : List (Int × Int)}, S.Pairwise (fun a b => a.1 < b.1) → ∀ z ∈ S.zip (S.drop 1), z.1.1 < z.2.1
  | [], _, z, h => by simp at h
  | [a], _, z, h => by simp at h
  | a :: b :: S, hp, z, h => by
    have h' : z ∈ (a, b) :: ((b :: S).zip ((b :: S).drop 1)) := by simpa using h
    rcases List.mem_cons.mp h' with e | h2
    · subst e
      exact (List.pairwise_cons.mp hp).1 b List.mem_cons_self
    · exact zip_lt (List.pairwise_cons.mp hp).2 z h2
theorem issum_eq {S : List (Int × Int)} (hnz : ∀ z ∈ S, z.2 ≠ 0) (hup : S.Pairwise (fun a b => a.1 < b.1)) (hl : S.length ≤ 10000) : f_law_is_sum [.ow (.list (S.map pD))] = some (.val (.fz (.bool true)), [.ow (.list (S.map pD))]) := by
  obtain ⟨r', e, s1, rfl, q1⟩ := forN (pr := [0]) (tg := .nm 1) (body := exSs c_law_is_sum [0] 100000 b_law_is_sum_1) (ds := S.map pD) (r := [.lk (.list (S.map pD)), .un, .un])
    (fun i r => ∃ s1, r = [.lk (.list (S.map pD)), s1, .un] ∧ Fzu s1) ⟨.un, rfl, .inl rfl⟩ (fun i d r hd ⟨s1, hr, q1⟩ => by
      subst hr
      rw [List.getElem?_map] at hd
      obtain ⟨z, hz, rfl⟩ := Option.map_eq_some_iff.mp hd
      have e1 := whole_eq z.1
      have e2 := whole_eq z.2
      generalize S.map pD = P
      refine ⟨[.lk (.list P), .fz (pD z), .un], ?_, [.lk (.list P), .fz (pD z), .un], ?_, .fz (pD z), rfl, .inr ⟨_, rfl⟩⟩
      · rcases q1 with rfl | ⟨d, rfl⟩ <;> simp [bindT, setSl]
      · unfold b_law_is_sum_1 c_law_is_sum pD
        simp [p_rd, p_cpo, p_cap, p_st, p_ret, p_arg, p_pk, p_bk, p_lo, p_lk, p_ul, rds, argsOf, setSl, lenOk, exS, exSs, evE, evSs, evCs, evAs, evTs, evI, protOf, outsOf, runF, fnB, Arg.sl, setAt, clCons, clNil, kdIs, isDict, k_bind, k_bindX, k_lift, k_stl1, k_stl2, k_stl3, k_cpo1, k_cpo2, k_rd1, k_rd2, k_bool, k_int, k_lit, k_add, k_sub, k_mul, k_mod, k_fdiv, k_pow, k_catL, k_catT, k_lt, k_le, k_gt, k_ge, k_eqI, k_neI, k_eqB, k_eq, k_ne, k_idxL, k_idxT, k_at, k_at0, k_at1, k_ix, k_lenL, k_lenT, k_abs, k_min, k_max, k_toL, k_toLT, k_toT, k_toTT, k_toI, k_toIB, k_sum, k_all, k_any, k_rng1, k_rng2, k_st1, k_st2, k_ret1, k_ret2, k_arg1, k_arg2, k_pk0, k_pk1, k_pk2, k_bk0, k_bk1, k_bk2, k_nd0, k_nd1, k_unl, k_lk0, k_ul0, k_lo1, k_sqL, k_sqT, k_app, k_clear, k_popAt, k_setD, k_setD0, k_setD1, dupV, e1, e2])
  have k1 := compL_map (pr := [0]) (own := [1]) (tg := .nm 1) (test := fun x => .ok true x) (elt := fun r => cpo (evE c_law_is_sum [0] e_law_is_sum_2 r)) (r := [.lk (.list (S.map pD)), .un, .un])
    (f := fun d => .bool true) (p := fun _ => true) (ds := S.map pD) (acc := []) (fun d hd => by
    obtain ⟨z, hz, rfl⟩ := List.mem_map.mp hd
    have h0 := hnz z hz
    generalize S.map pD = P
    refine ⟨[.lk (.list P), .fz (pD z), .un], [.lk (.list P), .fz (pD z), .un], by simp [bindT, setSl], rfl, (fun h => by cases h), fun _ => ⟨[.lk (.list P), .fz (pD z), .un], ?_, by simp [noLk], by simp [wipeR]⟩⟩
    unfold e_law_is_sum_2 c_law_is_sum pD
    simp [p_rd, p_cpo, p_cap, p_st, p_ret, p_arg, p_pk, p_bk, p_lo, p_lk, p_ul, rds, argsOf, setSl, lenOk, exS, exSs, evE, evSs, evCs, evAs, evTs, evI, protOf, outsOf, runF, fnB, Arg.sl, setAt, clCons, clNil, kdIs, isDict, k_bind, k_bindX, k_lift, k_stl1, k_stl2, k_stl3, k_cpo1, k_cpo2, k_rd1, k_rd2, k_bool, k_int, k_lit, k_add, k_sub, k_mul, k_mod, k_fdiv, k_pow, k_catL, k_catT, k_lt, k_le, k_gt, k_ge, k_eqI, k_neI, k_eqB, k_eq, k_ne, k_idxL, k_idxT, k_at, k_at0, k_at1, k_ix, k_lenL, k_lenT, k_abs, k_min, k_max, k_toL, k_toLT, k_toT, k_toTT, k_toI, k_toIB, k_sum, k_all, k_any, k_rng1, k_rng2, k_st1, k_st2, k_ret1, k_ret2, k_arg1, k_arg2, k_pk0, k_pk1, k_pk2, k_bk0, k_bk1, k_bk2, k_nd0, k_nd1, k_unl, k_lk0, k_ul0, k_lo1, k_sqL, k_sqT, k_app, k_clear, k_popAt, k_setD, k_setD0, k_setD1, dupV, h0]) (by
    simp only [List.length_nil, List.length_map]
    omega)
  rw [List.filter_eq_self.mpr fun _ _ => rfl, List.nil_append] at k1
  have ha1 := k_all1 (S.map pD)
  have hz : zipD (S.map pD) ((S.map pD).drop 1) = (S.zip (S.drop 1)).map fun z => PyData.tuple [pD z.1, pD z.2] := by
    rw [← List.map_drop, zip_p]
  have k2 := compL_map (pr := [0]) (own := [1, 2]) (tg := .t2 (.nm 1) (.nm 2)) (test := fun x => .ok true x) (elt := fun r => cpo (evE c_law_is_sum [0] e_law_is_sum_1 r)) (r := [.lk (.list (S.map pD)), .un, .un])
    (f := fun d => .bool true) (p := fun _ => true) (ds := (S.zip (S.drop 1)).map fun z => PyData.tuple [pD z.1, pD z.2]) (acc := []) (fun d hd => by
    obtain ⟨z, hz, rfl⟩ := List.mem_map.mp hd
    have h0 := zip_lt hup z hz
    generalize S.map pD = P
    refine ⟨[.lk (.list P), .fz (pD z.1), .fz (pD z.2)], [.lk (.list P), .fz (pD z.1), .fz (pD z.2)], by simp [bindT, setSl], rfl, (fun h => by cases h), fun _ => ⟨[.lk (.list P), .fz (pD z.1), .fz (pD z.2)], ?_, by simp [noLk], by simp [wipeR]⟩⟩
    unfold e_law_is_sum_1 c_law_is_sum pD
    simp [p_rd, p_cpo, p_cap, p_st, p_ret, p_arg, p_pk, p_bk, p_lo, p_lk, p_ul, rds, argsOf, setSl, lenOk, exS, exSs, evE, evSs, evCs, evAs, evTs, evI, protOf, outsOf, runF, fnB, Arg.sl, setAt, clCons, clNil, kdIs, isDict, k_bind, k_bindX, k_lift, k_stl1, k_stl2, k_stl3, k_cpo1, k_cpo2, k_rd1, k_rd2, k_bool, k_int, k_lit, k_add, k_sub, k_mul, k_mod, k_fdiv, k_pow, k_catL, k_catT, k_lt, k_le, k_gt, k_ge, k_eqI, k_neI, k_eqB, k_eq, k_ne, k_idxL, k_idxT, k_at, k_at0, k_at1, k_ix, k_lenL, k_lenT, k_abs, k_min, k_max, k_toL, k_toLT, k_toT, k_toTT, k_toI, k_toIB, k_sum, k_all, k_any, k_rng1, k_rng2, k_st1, k_st2, k_ret1, k_ret2, k_arg1, k_arg2, k_pk0, k_pk1, k_pk2, k_bk0, k_bk1, k_bk2, k_nd0, k_nd1, k_unl, k_lk0, k_ul0, k_lo1, k_sqL, k_sqT, k_app, k_clear, k_popAt, k_setD, k_setD0, k_setD1, dupV, h0]) (by
    simp only [List.length_nil, List.length_map, List.length_zip]
    omega)
  rw [List.filter_eq_self.mpr fun _ _ => rfl, List.nil_append] at k2
  have ha2 := k_all1 ((S.zip (S.drop 1)).map fun z => PyData.tuple [pD z.1, pD z.2])
  rw [← hz] at k2 ha2
  have hc := k_cut1 (S.map pD)
  generalize S.map pD = P at *
  generalize hb1 : P.map (fun _ => PyData.bool true) = bs1 at *
  generalize (zipD P (P.drop 1)).map (fun _ => PyData.bool true) = bs2 at *
  simp only [List.drop_one] at k2 hc
  unfold f_law_is_sum b_law_is_sum
  unfold c_law_is_sum at *
  rcases q1 with rfl | ⟨d, rfl⟩ <;> simp [p_rd, p_cpo, p_cap, p_st, p_ret, p_arg, p_pk, p_bk, p_lo, p_lk, p_ul, rds, argsOf, setSl, lenOk, exS, exSs, evE, evSs, evCs, evAs, evTs, evI, protOf, outsOf, runF, fnB, Arg.sl, setAt, clCons, clNil, kdIs, isDict, k_bind, k_bindX, k_lift, k_stl1, k_stl2, k_stl3, k_cpo1, k_cpo2, k_rd1, k_rd2, k_bool, k_int, k_lit, k_add, k_sub, k_mul, k_mod, k_fdiv, k_pow, k_catL, k_catT, k_lt, k_le, k_gt, k_ge, k_eqI, k_neI, k_eqB, k_eq, k_ne, k_idxL, k_idxT, k_at, k_at0, k_at1, k_ix, k_lenL, k_lenT, k_abs, k_min, k_max, k_toL, k_toLT, k_toT, k_toTT, k_toI, k_toIB, k_sum, k_all, k_any, k_rng1, k_rng2, k_st1, k_st2, k_ret1, k_ret2, k_arg1, k_arg2, k_pk0, k_pk1, k_pk2, k_bk0, k_bk1, k_bk2, k_nd0, k_nd1, k_unl, k_lk0, k_ul0, k_lo1, k_sqL, k_sqT, k_app, k_clear, k_popAt, k_setD, k_setD0, k_setD1, dupV, e, k1, k2, ha1, ha2, hc, wipeOk, wipeR, backR]
def negL (L : List (Int × Int)) : List (Int × Int) := L.map fun z => (z.1, 0 - z.2)
theorem summed_same : f_law_summed = f_tidy := rfl
/-! ### products -/
def prodL (A B : List (Int × Int)) : List (Int × Int) := A.flatMap fun z => B.map fun w => (z.1 + w.1, z.2 * w.2)
theorem prodL_take {A : List (Int × Int)} (B : List (Int × Int)) {i : Nat} {z : Int × Int} (h : A[i]? = some z) : prodL (A.take (i + 1)) B = prodL (A.take i) B ++ B.map fun w => (z.1 + w.1, z.2 * w.2) := by
  unfold prodL
  rw [List.take_succ, h, List.flatMap_append]
  simp
theorem prodL_len (A B : List (Int × Int)) : (prodL A B).length ≤ A.length * B.length := by
  induction A with
  | nil => simp [prodL]
  | cons z A ih =>
    have : prodL (z :: A) B = (B.map fun w => (z.1 + w.1, z.2 * w.2)) ++ prodL A B := by simp [prodL]
    rw [this, List.length_append, List.length_map, List.length_cons, Nat.succ_mul]
    omega
theorem flat_split {α β : Type} (g : α → β) (h : α → List β) : ∀ l : List α, (l.flatMap fun a => g a :: h a).Perm (l.map g ++ l.flatMap h)
  | [] => List.Perm.refl _
  | a :: l => by
    rw [List.flatMap_cons, List.map_cons, List.flatMap_cons, List.cons_append, List.cons_append]
    refine List.Perm.cons _ ?_
    have ih := flat_split g h l
    refine (List.Perm.append_left (h a) ih).trans ?_
    rw [← List.append_assoc, ← List.append_assoc]
    exact List.Perm.append_right _ List.perm_append_comm
theorem prodL_comm : ∀ A B : List (Int × Int), (prodL A B).Perm (prodL B A)
  | [], B => by
    have : prodL B [] = [] := by
      induction B with
      | nil => rfl
      | cons b B ih => simpa [prodL] using ih
    rw [this]
    exact List.Perm.refl _
  | z :: A, B => by
    have h1 : prodL (z :: A) B = (B.map fun w => (z.1 + w.1, z.2 * w.2)) ++ prodL A B := by simp [prodL]
    have h2 : prodL B (z :: A) = B.flatMap fun w => (w.1 + z.1, w.2 * z.2) :: A.map fun y => (w.1 + y.1, w.2 * y.2) := by simp [prodL]
    rw [h1, h2]
    refine List.Perm.trans ?_ (flat_split (fun w : Int × Int => (w.1 + z.1, w.2 * z.2)) (fun w => A.map fun y => (w.1 + y.1, w.2 * y.2)) B).symm
    have h3 : (B.map fun w => (z.1 + w.1, z.2 * w.2)) = B.map fun w => (w.1 + z.1, w.2 * z.2) := List.map_congr_left fun w _ => by rw [Int.add_comm, Int.mul_comm]
    rw [h3]
    exact List.Perm.append_left _ (prodL_comm A B)
theorem perm_sum {l l' : List Int} (h : l.Perm l') : l.sum = l'.sum := by
  induction h with
  | nil => rfl
  | cons x _ ih => rw [List.sum_cons, List.sum_cons, ih]
  | swap x y l =>
    rw [List.sum_cons, List.sum_cons, List.sum_cons, List.sum_cons]
    omega
  | trans _ _ h1 h2 => rw [h1, h2]
theorem coef_perm {L L' : List (Int × Int)} (h : L.Perm L') (k : Int) : coef L k = coef L' k := by
  unfold coef
  exact perm_sum (h.map _)
/-! ### how great -/
def Bd (W a : Nat) (S : List (Int × Int)) : Prop := ∀ z ∈ S, (-(W : Int) ≤ z.1 ∧ z.1 ≤ W) ∧ z.2.natAbs < 2 ^ a
theorem sum_lt (a : Nat) : ∀ {l : List Int}, (∀ x ∈ l, x.natAbs < 2 ^ a) → l.sum.natAbs ≤ l.length * 2 ^ a
  | [], _ => by simp
  | x :: l, h => by
    have h1 := h x List.mem_cons_self
    have h2 := sum_lt a (l := l) fun y hy => h y (List.mem_cons_of_mem _ hy)
    rw [List.sum_cons, List.length_cons, Nat.succ_mul]
    omega
theorem coef_lt {W a c : Nat} {L : List (Int × Int)} (h : Bd W a L) (hl : L.length < 2 ^ c) (k : Int) : (coef L k).natAbs < 2 ^ (a + c) := by
  have h1 : (coef L k).natAbs ≤ L.length * 2 ^ a := by
    have := sum_lt a (l := L.map fun z => if z.1 = k then z.2 else 0) fun x hx => by
      obtain ⟨z, hz, rfl⟩ := List.mem_map.mp hx
      by_cases e : z.1 = k
      · rw [if_pos e]; exact (h z hz).2
      · rw [if_neg e]; exact Nat.two_pow_pos a
    rw [List.length_map] at this
    exact this
  have h2 : L.length * 2 ^ a < 2 ^ c * 2 ^ a := Nat.mul_lt_mul_of_pos_right hl (Nat.two_pow_pos a)
  rw [Nat.pow_add, Nat.mul_comm (2 ^ a)]
  omega
theorem tz_bd {W a c : Nat} {L : List (Int × Int)} (h : Bd W a L) (hl : L.length < 2 ^ c) : Bd W (a + c) (tz L) := fun z hz => by
  obtain ⟨k, hk, rfl⟩ := List.mem_map.mp hz
  obtain ⟨y, hy, rfl⟩ := (ksD_mem L k).mp (sk_mem.mp (List.mem_filter.mp hk).1)
  exact ⟨(h y hy).1, coef_lt h hl _⟩
theorem rise_len (lo : Int) : ∀ {l : List Int} {hi : Int}, l.Pairwise (· < ·) → (∀ x ∈ l, lo ≤ x ∧ x < hi) → lo ≤ hi → (l.length : Int) ≤ hi - lo := fun {l} => by
  refine snoc_ind (P := fun l => ∀ {hi : Int}, l.Pairwise (· < ·) → (∀ x ∈ l, lo ≤ x ∧ x < hi) → lo ≤ hi → (l.length : Int) ≤ hi - lo) (fun {hi} _ _ h => by simp; omega) (fun l a ih {hi} hp hb h => ?_) l
  rw [List.pairwise_append] at hp
  have ha := hb a (by simp)
  have := ih (hi := a) hp.1 (fun x hx => ⟨(hb x (List.mem_append_left _ hx)).1, hp.2.2 x hx a (by simp)⟩) ha.1
  rw [List.length_append]
  simp
  omega
theorem tz_short {W a : Nat} {L : List (Int × Int)} (h : Bd W a L) : (tz L).length ≤ 2 * W + 1 := by
  have hb : ∀ x ∈ (tz L).map (fun z => z.1), -(W : Int) ≤ x ∧ x < (W : Int) + 1 := fun x hx => by
    obtain ⟨z, hz, rfl⟩ := List.mem_map.mp hx
    obtain ⟨k, hk, rfl⟩ := List.mem_map.mp hz
    obtain ⟨y, hy, rfl⟩ := (ksD_mem L k).mp (sk_mem.mp (List.mem_filter.mp hk).1)
    have := (h y hy).1
    exact ⟨this.1, by show y.1 < _; omega⟩
  have := rise_len (-(W : Int)) (l := (tz L).map fun z => z.1) (List.pairwise_map.mpr (tz_up L)) hb (by omega)
  rw [List.length_map] at this
  omega
theorem times_comp_ff {A B : List (Int × Int)} {X : D} {z : Int × Int} (hm : ∀ w ∈ B, mulOk z.2 w.2 = true) (hl : B.length ≤ 10000) :
    compL [] [5, 6] (.t2 (.nm 5) (.nm 6)) (fun x => .ok true x) (fun r => cpo (evE c_times [] e_times_1 r)) (B.map pD) [] [.fz (.list (A.map pD)), .fz (.list (B.map pD)), .ow X, .fz (.int z.1), .fz (.int z.2), .un, .un] = .ok ((B.map fun w => (z.1 + w.1, z.2 * w.2)).map pD) [.fz (.list (A.map pD)), .fz (.list (B.map pD)), .ow X, .fz (.int z.1), .fz (.int z.2), .un, .un] := by
  have key := compL_map (pr := []) (own := [5, 6]) (tg := .t2 (.nm 5) (.nm 6)) (test := fun x => .ok true x) (elt := fun r => cpo (evE c_times [] e_times_1 r)) (r := [.fz (.list (A.map pD)), .fz (.list (B.map pD)), .ow X, .fz (.int z.1), .fz (.int z.2), .un, .un])
    (f := fun d => match d with | .tuple [.int x, .int y] => .tuple [.int (z.1 + x), .int (z.2 * y)] | d => d) (p := fun _ => true) (ds := B.map pD) (acc := []) (fun d hd => by
    obtain ⟨w, hw, rfl⟩ := List.mem_map.mp hd
    have h := hm w hw
    generalize A.map pD = P
    generalize B.map pD = Q
    refine ⟨[.fz (.list P), .fz (.list Q), .ow X, .fz (.int z.1), .fz (.int z.2), .fz (.int w.1), .fz (.int w.2)], [.fz (.list P), .fz (.list Q), .ow X, .fz (.int z.1), .fz (.int z.2), .fz (.int w.1), .fz (.int w.2)], by simp [bindT, setSl, pD], rfl, (fun h => by cases h), fun _ => ⟨[.fz (.list P), .fz (.list Q), .ow X, .fz (.int z.1), .fz (.int z.2), .fz (.int w.1), .fz (.int w.2)], ?_, by simp [noLk], by simp [wipeR]⟩⟩
    unfold e_times_1 c_times pD
    simp [p_rd, p_cpo, p_cap, p_st, p_ret, p_arg, p_pk, p_bk, p_lo, p_lk, p_ul, rds, argsOf, setSl, lenOk, exS, exSs, evE, evSs, evCs, evAs, evTs, evI, protOf, outsOf, runF, fnB, Arg.sl, setAt, clCons, clNil, kdIs, isDict, k_bind, k_bindX, k_lift, k_stl1, k_stl2, k_stl3, k_cpo1, k_cpo2, k_rd1, k_rd2, k_bool, k_int, k_lit, k_add, k_sub, k_mul, k_mod, k_fdiv, k_pow, k_catL, k_catT, k_lt, k_le, k_gt, k_ge, k_eqI, k_neI, k_eqB, k_eq, k_ne, k_idxL, k_idxT, k_at, k_at0, k_at1, k_ix, k_lenL, k_lenT, k_abs, k_min, k_max, k_toL, k_toLT, k_toT, k_toTT, k_toI, k_toIB, k_sum, k_all, k_any, k_rng1, k_rng2, k_st1, k_st2, k_ret1, k_ret2, k_arg1, k_arg2, k_pk0, k_pk1, k_pk2, k_bk0, k_bk1, k_bk2, k_nd0, k_nd1, k_unl, k_lk0, k_ul0, k_lo1, k_sqL, k_sqT, k_app, k_clear, k_popAt, k_setD, k_setD0, k_setD1, dupV, h]) (by
    simp only [List.length_nil, List.length_map]
    omega)
  rw [key, List.filter_eq_self.mpr fun _ _ => rfl, List.nil_append, List.map_map, List.map_map]
  rfl
theorem times_ff {A B : List (Int × Int)} (hm : ∀ z ∈ A, ∀ w ∈ B, mulOk z.2 w.2 = true) (hl : B.length ≤ 10000) (hl2 : A.length * B.length ≤ 100000) :
    f_times [.fz (.list (A.map pD)), .fz (.list (B.map pD))] = some (.val (.ow (.list ((tz (prodL A B)).map pD))), [.fz (.list (A.map pD)), .fz (.list (B.map pD))]) := by
  obtain ⟨r', e, s3, s4, rfl, _⟩ := forN (pr := []) (tg := .t2 (.nm 3) (.nm 4)) (body := exSs c_times [] 100000 b_times_1) (ds := A.map pD) (r := [.fz (.list (A.map pD)), .fz (.list (B.map pD)), .ow (.list []), .un, .un, .un, .un])
    (fun i r => ∃ s3 s4, r = [.fz (.list (A.map pD)), .fz (.list (B.map pD)), .ow (.list ((prodL (A.take i) B).map pD)), s3, s4, .un, .un] ∧ Fzu s3 ∧ Fzu s4) ⟨.un, .un, rfl, .inl rfl, .inl rfl⟩ (fun i d r hd ⟨s3, s4, hr, q3, q4⟩ => by
      subst hr
      rw [List.getElem?_map] at hd
      obtain ⟨z, hz, rfl⟩ := Option.map_eq_some_iff.mp hd
      have hc := times_comp_ff (A := A) (B := B) (X := .list ((prodL (A.take i) B).map pD)) (z := z) (fun w hw => hm z (List.mem_of_getElem? hz) w hw) hl
      have hnx := prodL_take B hz
      have hlen := prodL_len (A.take (i + 1)) B
      have htk : (A.take (i + 1)).length ≤ A.length := by rw [List.length_take]; omega
      have hmm := Nat.mul_le_mul htk (Nat.le_refl B.length)
      rw [hnx]
      rw [hnx, List.length_append] at hlen
      rw [List.map_append]
      have hlo : ((prodL (A.take i) B).map pD).length + ((B.map fun w => (z.1 + w.1, z.2 * w.2)).map pD).length ≤ 100000 := by
        rw [List.length_map, List.length_map]
        omega
      generalize (B.map fun w => (z.1 + w.1, z.2 * w.2)).map pD = more at *
      generalize (prodL (A.take i) B).map pD = acc at *
      generalize A.map pD = P at *
      generalize B.map pD = Q at *
      refine ⟨[.fz (.list P), .fz (.list Q), .ow (.list acc), .fz (.int z.1), .fz (.int z.2), .un, .un], ?_, [.fz (.list P), .fz (.list Q), .ow (.list (acc ++ more)), .fz (.int z.1), .fz (.int z.2), .un, .un], ?_, .fz (.int z.1), .fz (.int z.2), rfl, .inr ⟨_, rfl⟩, .inr ⟨_, rfl⟩⟩
      · rcases q3 with rfl | ⟨d, rfl⟩ <;> rcases q4 with rfl | ⟨d, rfl⟩ <;> simp [bindT, setSl, pD]
      · unfold b_times_1
        unfold c_times at *
        simp [p_rd, p_cpo, p_cap, p_st, p_ret, p_arg, p_pk, p_bk, p_lo, p_lk, p_ul, rds, argsOf, setSl, lenOk, exS, exSs, evE, evSs, evCs, evAs, evTs, evI, protOf, outsOf, runF, fnB, Arg.sl, setAt, clCons, clNil, kdIs, isDict, k_bind, k_bindX, k_lift, k_stl1, k_stl2, k_stl3, k_cpo1, k_cpo2, k_rd1, k_rd2, k_bool, k_int, k_lit, k_add, k_sub, k_mul, k_mod, k_fdiv, k_pow, k_catL, k_catT, k_lt, k_le, k_gt, k_ge, k_eqI, k_neI, k_eqB, k_eq, k_ne, k_idxL, k_idxT, k_at, k_at0, k_at1, k_ix, k_lenL, k_lenT, k_abs, k_min, k_max, k_toL, k_toLT, k_toT, k_toTT, k_toI, k_toIB, k_sum, k_all, k_any, k_rng1, k_rng2, k_st1, k_st2, k_ret1, k_ret2, k_arg1, k_arg2, k_pk0, k_pk1, k_pk2, k_bk0, k_bk1, k_bk2, k_nd0, k_nd1, k_unl, k_lk0, k_ul0, k_lo1, k_sqL, k_sqT, k_app, k_clear, k_popAt, k_setD, k_setD0, k_setD1, dupV, wipeOk, wipeR, backR, hc, extItems, hlo])
  rw [List.length_map, List.take_length] at e
  have ht := tidy_eq (L := prodL A B) (Nat.le_trans (prodL_len A B) hl2)
  skip
  generalize (tz (prodL A B)).map pD = T at *
  generalize (prodL A B).map pD = Y at *
  generalize A.map pD = P at *
  generalize B.map pD = Q at *
  unfold f_times b_times
  unfold c_times at *
  simp [p_rd, p_cpo, p_cap, p_st, p_ret, p_arg, p_pk, p_bk, p_lo, p_lk, p_ul, rds, argsOf, setSl, lenOk, exS, exSs, evE, evSs, evCs, evAs, evTs, evI, protOf, outsOf, runF, fnB, Arg.sl, setAt, clCons, clNil, kdIs, isDict, k_bind, k_bindX, k_lift, k_stl1, k_stl2, k_stl3, k_cpo1, k_cpo2, k_rd1, k_rd2, k_bool, k_int, k_lit, k_add, k_sub, k_mul, k_mod, k_fdiv, k_pow, k_catL, k_catT, k_lt, k_le, k_gt, k_ge, k_eqI, k_neI, k_eqB, k_eq, k_ne, k_idxL, k_idxT, k_at, k_at0, k_at1, k_ix, k_lenL, k_lenT, k_abs, k_min, k_max, k_toL, k_toLT, k_toT, k_toTT, k_toI, k_toIB, k_sum, k_all, k_any, k_rng1, k_rng2, k_st1, k_st2, k_ret1, k_ret2, k_arg1, k_arg2, k_pk0, k_pk1, k_pk2, k_bk0, k_bk1, k_bk2, k_nd0, k_nd1, k_unl, k_lk0, k_ul0, k_lo1, k_sqL, k_sqT, k_app, k_clear, k_popAt, k_setD, k_setD0, k_setD1, dupV, e, ht]
theorem times_comp_oo {A B : List (Int × Int)} {X : D} {z : Int × Int} (hm : ∀ w ∈ B, mulOk z.2 w.2 = true) (hl : B.length ≤ 10000) :
    compL [0, 1] [5, 6] (.t2 (.nm 5) (.nm 6)) (fun x => .ok true x) (fun r => cpo (evE c_times [0, 1] e_times_1 r)) (B.map pD) [] [.lk (.list (A.map pD)), .lk (.list (B.map pD)), .ow X, .fz (.int z.1), .fz (.int z.2), .un, .un] = .ok ((B.map fun w => (z.1 + w.1, z.2 * w.2)).map pD) [.lk (.list (A.map pD)), .lk (.list (B.map pD)), .ow X, .fz (.int z.1), .fz (.int z.2), .un, .un] := by
  have key := compL_map (pr := [0, 1]) (own := [5, 6]) (tg := .t2 (.nm 5) (.nm 6)) (test := fun x => .ok true x) (elt := fun r => cpo (evE c_times [0, 1] e_times_1 r)) (r := [.lk (.list (A.map pD)), .lk (.list (B.map pD)), .ow X, .fz (.int z.1), .fz (.int z.2), .un, .un])
    (f := fun d => match d with | .tuple [.int x, .int y] => .tuple [.int (z.1 + x), .int (z.2 * y)] | d => d) (p := fun _ => true) (ds := B.map pD) (acc := []) (fun d hd => by
    obtain ⟨w, hw, rfl⟩ := List.mem_map.mp hd
    have h := hm w hw
    generalize A.map pD = P
    generalize B.map pD = Q
    refine ⟨[.lk (.list P), .lk (.list Q), .ow X, .fz (.int z.1), .fz (.int z.2), .fz (.int w.1), .fz (.int w.2)], [.lk (.list P), .lk (.list Q), .ow X, .fz (.int z.1), .fz (.int z.2), .fz (.int w.1), .fz (.int w.2)], by simp [bindT, setSl, pD], rfl, (fun h => by cases h), fun _ => ⟨[.lk (.list P), .lk (.list Q), .ow X, .fz (.int z.1), .fz (.int z.2), .fz (.int w.1), .fz (.int w.2)], ?_, by simp [noLk], by simp [wipeR]⟩⟩
    unfold e_times_1 c_times pD
    simp [p_rd, p_cpo, p_cap, p_st, p_ret, p_arg, p_pk, p_bk, p_lo, p_lk, p_ul, rds, argsOf, setSl, lenOk, exS, exSs, evE, evSs, evCs, evAs, evTs, evI, protOf, outsOf, runF, fnB, Arg.sl, setAt, clCons, clNil, kdIs, isDict, k_bind, k_bindX, k_lift, k_stl1, k_stl2, k_stl3, k_cpo1, k_cpo2, k_rd1, k_rd2, k_bool, k_int, k_lit, k_add, k_sub, k_mul, k_mod, k_fdiv, k_pow, k_catL, k_catT, k_lt, k_le, k_gt, k_ge, k_eqI, k_neI, k_eqB, k_eq, k_ne, k_idxL, k_idxT, k_at, k_at0, k_at1, k_ix, k_lenL, k_lenT, k_abs, k_min, k_max, k_toL, k_toLT, k_toT, k_toTT, k_toI, k_toIB, k_sum, k_all, k_any, k_rng1, k_rng2, k_st1, k_st2, k_ret1, k_ret2, k_arg1, k_arg2, k_pk0, k_pk1, k_pk2, k_bk0, k_bk1, k_bk2, k_nd0, k_nd1, k_unl, k_lk0, k_ul0, k_lo1, k_sqL, k_sqT, k_app, k_clear, k_popAt, k_setD, k_setD0, k_setD1, dupV, h]) (by
    simp only [List.length_nil, List.length_map]
    omega)
  rw [key, List.filter_eq_self.mpr fun _ _ => rfl, List.nil_append, List.map_map, List.map_map]
  rfl
theorem times_oo {A B : List (Int × Int)} (hm : ∀ z ∈ A, ∀ w ∈ B, mulOk z.2 w.2 = true) (hl : B.length ≤ 10000) (hl2 : A.length * B.length ≤ 100000) :
    f_times [.ow (.list (A.map pD)), .ow (.list (B.map pD))] = some (.val (.ow (.list ((tz (prodL A B)).map pD))), [.ow (.list (A.map pD)), .ow (.list (B.map pD))]) := by
  obtain ⟨r', e, s3, s4, rfl, _⟩ := forN (pr := [0, 1]) (tg := .t2 (.nm 3) (.nm 4)) (body := exSs c_times [0, 1] 100000 b_times_1) (ds := A.map pD) (r := [.lk (.list (A.map pD)), .ow (.list (B.map pD)), .ow (.list []), .un, .un, .un, .un])
    (fun i r => ∃ s3 s4, r = [.lk (.list (A.map pD)), .ow (.list (B.map pD)), .ow (.list ((prodL (A.take i) B).map pD)), s3, s4, .un, .un] ∧ Fzu s3 ∧ Fzu s4) ⟨.un, .un, rfl, .inl rfl, .inl rfl⟩ (fun i d r hd ⟨s3, s4, hr, q3, q4⟩ => by
      subst hr
      rw [List.getElem?_map] at hd
      obtain ⟨z, hz, rfl⟩ := Option.map_eq_some_iff.mp hd
      have hc := times_comp_oo (A := A) (B := B) (X := .list ((prodL (A.take i) B).map pD)) (z := z) (fun w hw => hm z (List.mem_of_getElem? hz) w hw) hl
      have hnx := prodL_take B hz
      have hlen := prodL_len (A.take (i + 1)) B
      have htk : (A.take (i + 1)).length ≤ A.length := by rw [List.length_take]; omega
      have hmm := Nat.mul_le_mul htk (Nat.le_refl B.length)
      rw [hnx]
      rw [hnx, List.length_append] at hlen
      rw [List.map_append]
      have hlo : ((prodL (A.take i) B).map pD).length + ((B.map fun w => (z.1 + w.1, z.2 * w.2)).map pD).length ≤ 100000 := by
        rw [List.length_map, List.length_map]
        omega
      generalize (B.map fun w => (z.1 + w.1, z.2 * w.2)).map pD = more at *
      generalize (prodL (A.take i) B).map pD = acc at *
      generalize A.map pD = P at *
      generalize B.map pD = Q at *
      refine ⟨[.lk (.list P), .ow (.list Q), .ow (.list acc), .fz (.int z.1), .fz (.int z.2), .un, .un], ?_, [.lk (.list P), .ow (.list Q), .ow (.list (acc ++ more)), .fz (.int z.1), .fz (.int z.2), .un, .un], ?_, .fz (.int z.1), .fz (.int z.2), rfl, .inr ⟨_, rfl⟩, .inr ⟨_, rfl⟩⟩
      · rcases q3 with rfl | ⟨d, rfl⟩ <;> rcases q4 with rfl | ⟨d, rfl⟩ <;> simp [bindT, setSl, pD]
      · unfold b_times_1
        unfold c_times at *
        simp [p_rd, p_cpo, p_cap, p_st, p_ret, p_arg, p_pk, p_bk, p_lo, p_lk, p_ul, rds, argsOf, setSl, lenOk, exS, exSs, evE, evSs, evCs, evAs, evTs, evI, protOf, outsOf, runF, fnB, Arg.sl, setAt, clCons, clNil, kdIs, isDict, k_bind, k_bindX, k_lift, k_stl1, k_stl2, k_stl3, k_cpo1, k_cpo2, k_rd1, k_rd2, k_bool, k_int, k_lit, k_add, k_sub, k_mul, k_mod, k_fdiv, k_pow, k_catL, k_catT, k_lt, k_le, k_gt, k_ge, k_eqI, k_neI, k_eqB, k_eq, k_ne, k_idxL, k_idxT, k_at, k_at0, k_at1, k_ix, k_lenL, k_lenT, k_abs, k_min, k_max, k_toL, k_toLT, k_toT, k_toTT, k_toI, k_toIB, k_sum, k_all, k_any, k_rng1, k_rng2, k_st1, k_st2, k_ret1, k_ret2, k_arg1, k_arg2, k_pk0, k_pk1, k_pk2, k_bk0, k_bk1, k_bk2, k_nd0, k_nd1, k_unl, k_lk0, k_ul0, k_lo1, k_sqL, k_sqT, k_app, k_clear, k_popAt, k_setD, k_setD0, k_setD1, dupV, wipeOk, wipeR, backR, hc, extItems, hlo])
  rw [List.length_map, List.take_length] at e
  have ht := tidy_eq (L := prodL A B) (Nat.le_trans (prodL_len A B) hl2)
  skip
  generalize (tz (prodL A B)).map pD = T at *
  generalize (prodL A B).map pD = Y at *
  generalize A.map pD = P at *
  generalize B.map pD = Q at *
  unfold f_times b_times
  unfold c_times at *
  simp [p_rd, p_cpo, p_cap, p_st, p_ret, p_arg, p_pk, p_bk, p_lo, p_lk, p_ul, rds, argsOf, setSl, lenOk, exS, exSs, evE, evSs, evCs, evAs, evTs, evI, protOf, outsOf, runF, fnB, Arg.sl, setAt, clCons, clNil, kdIs, isDict, k_bind, k_bindX, k_lift, k_stl1, k_stl2, k_stl3, k_cpo1, k_cpo2, k_rd1, k_rd2, k_bool, k_int, k_lit, k_add, k_sub, k_mul, k_mod, k_fdiv, k_pow, k_catL, k_catT, k_lt, k_le, k_gt, k_ge, k_eqI, k_neI, k_eqB, k_eq, k_ne, k_idxL, k_idxT, k_at, k_at0, k_at1, k_ix, k_lenL, k_lenT, k_abs, k_min, k_max, k_toL, k_toLT, k_toT, k_toTT, k_toI, k_toIB, k_sum, k_all, k_any, k_rng1, k_rng2, k_st1, k_st2, k_ret1, k_ret2, k_arg1, k_arg2, k_pk0, k_pk1, k_pk2, k_bk0, k_bk1, k_bk2, k_nd0, k_nd1, k_unl, k_lk0, k_ul0, k_lo1, k_sqL, k_sqT, k_app, k_clear, k_popAt, k_setD, k_setD0, k_setD1, dupV, e, ht]
def it (s : Nat → Nat) (c : Nat) : Nat → Nat
  | 0 => c
  | i + 1 => s (it s c i)
def ind (b : Bool) : Int := if b = true then 1 else 0
def cQ (i x j o : Nat) : Int := ind (decide (i < j) && decide (x < o)) + ind (decide (j < i) && decide (o < x))
def own (a b xa xb : Nat) : Int := cQ a xa b xb - cQ a xb b xa
theorem perm_ne {n : Nat} (h : 0 < n) {p : List Nat} (hp : p.Perm (List.range n)) : p ≠ [] := fun e => by
  have := hp.length_eq
  rw [e, List.length_range] at this
  simp at this
  omega
structure Crowd (n m : Nat) (C : List (List Nat)) : Prop where
  nd : C.Nodup
  pm : ∀ p ∈ C, p.Perm (List.range n)
  up : C.Pairwise (fun a b => leD (tupD a) (tupD b) = true)
  len : C.length ≤ m
theorem Crowd.ne {n m : Nat} {C : List (List Nat)} (h : Crowd n m C) (hn : 0 < n) : ∀ p ∈ C, p ≠ [] := fun p hp => perm_ne hn (h.pm p hp)
structure Ex2 (n : Nat) (s : List Nat) (a b : Nat) : Prop where
  n6 : n ≤ 6
  ps : s.Perm (List.range n)
  ha : a < n
  hb : b < n
  ne : a ≠ b
theorem Ex2.len {n : Nat} {s : List Nat} {a b : Nat} (h : Ex2 n s a b) : s.length = n := (InR.perm h.ps).1
def hv (a b c d : Nat) : Int := ind (decide (a < b)) + ind (decide (c < d)) - ind (decide (a ≤ d)) - ind (decide (c < b))
/-! ### the law -/
theorem compL_via {α : Type} {pr own : List Nat} {tg : Tg} {elt : Ro → O D} {h g : α → D} {r : Ro} : ∀ (Z : List α) (acc : List D),
    (∀ z ∈ Z, ∃ r1 r3, bindT pr tg (h z) r = some r1 ∧ elt r1 = .ok (g z) r3 ∧ noLk own r3 = true ∧ wipeR own r3 = r) →
    acc.length + Z.length ≤ 100001 → compL pr own tg (fun x => .ok true x) elt (Z.map h) acc r = .ok (acc ++ Z.map g) r
  | [], acc, _, _ => by simp [compL]
  | z :: Z, acc, step, hl => by
    obtain ⟨r1, r3, h1, g0, g1, g2⟩ := step z List.mem_cons_self
    have ih := fun acc h => compL_via Z acc (fun z hz => step z (List.mem_cons_of_mem _ hz)) h
    rw [List.length_cons] at hl
    have hlen : lenOk acc.length = true := decide_eq_true (by omega)
    rw [List.map_cons]
    simp only [compL, h1, g0, g1, g2, hlen, Bool.and_self, if_true]
    rw [ih (acc ++ [g z]) (by rw [List.length_append, List.length_singleton]; omega)]
    simp
/-! ### sums of powers as a ring -/
theorem coef_nil (k : Int) : coef [] k = 0 := rfl
theorem coef_cons (z : Int × Int) (L : List (Int × Int)) (k : Int) : coef (z :: L) k = (if z.1 = k then z.2 else 0) + coef L k := by
  unfold coef
  rw [List.map_cons, List.sum_cons]
theorem coef_app (A B : List (Int × Int)) (k : Int) : coef (A ++ B) k = coef A k + coef B k := by
  unfold coef
  rw [List.map_append, List.sum_append]
theorem coef_neg (A : List (Int × Int)) (k : Int) : coef (negL A) k = - coef A k := by
  induction A with
  | nil => rfl
  | cons z A ih =>
    show coef ((z.1, 0 - z.2) :: negL A) k = _
    rw [coef_cons, coef_cons, ih]
    by_cases h : z.1 = k
    · rw [if_pos h, if_pos h]; omega
    · rw [if_neg h, if_neg h]; omega
def sumZ (f : Int × Int → Int) (A : List (Int × Int)) : Int := (A.map f).sum
theorem sumZ_cons (f : Int × Int → Int) (z : Int × Int) (A : List (Int × Int)) : sumZ f (z :: A) = f z + sumZ f A := by
  unfold sumZ
  rw [List.map_cons, List.sum_cons]
theorem coef_shift (z : Int × Int) (B : List (Int × Int)) (k : Int) : coef (B.map fun w => (z.1 + w.1, z.2 * w.2)) k = z.2 * coef B (k - z.1) := by
  induction B with
  | nil => simp [coef]
  | cons w B ih =>
    rw [List.map_cons, coef_cons, coef_cons, ih, Int.mul_add]
    congr 1
    show (if z.1 + w.1 = k then z.2 * w.2 else 0) = z.2 * (if w.1 = k - z.1 then w.2 else 0)
    by_cases h : z.1 + w.1 = k
    · rw [if_pos h, if_pos (by omega)]
    · rw [if_neg h, if_neg (by omega), Int.mul_zero]
theorem prodL_cons (z : Int × Int) (A B : List (Int × Int)) : prodL (z :: A) B = (B.map fun w => (z.1 + w.1, z.2 * w.2)) ++ prodL A B := by
  unfold prodL
  rw [List.flatMap_cons]
theorem coef_prod (A B : List (Int × Int)) (k : Int) : coef (prodL A B) k = sumZ (fun z => z.2 * coef B (k - z.1)) A := by
  induction A with
  | nil => rfl
  | cons z A ih => rw [prodL_cons, coef_app, coef_shift, ih, sumZ_cons]
def LEq (A B : List (Int × Int)) : Prop := ∀ k, coef A k = coef B k
instance lpS : Setoid (List (Int × Int)) where
  r := LEq
  iseqv := ⟨fun _ _ => rfl, fun h k => (h k).symm, fun h g k => (h k).trans (g k)⟩
def LP : Type := Quotient lpS
def lp (A : List (Int × Int)) : LP := Quotient.mk lpS A
theorem lp_eq {A B : List (Int × Int)} : lp A = lp B ↔ ∀ k, coef A k = coef B k := ⟨fun h => Quotient.exact h, fun h => Quotient.sound h⟩
theorem prod_r {A B B' : List (Int × Int)} (h : LEq B B') : LEq (prodL A B) (prodL A B') := fun k => by
  rw [coef_prod, coef_prod]
  unfold sumZ
  congr 1
  refine List.map_congr_left fun z _ => ?_
  rw [h (k - z.1)]
theorem prod_l {A A' B : List (Int × Int)} (h : LEq A A') : LEq (prodL A B) (prodL A' B) := fun k => by
  rw [coef_perm (prodL_comm A B), coef_perm (prodL_comm A' B)]
  exact prod_r h k
def LP.add (a b : LP) : LP := Quotient.liftOn₂ a b (fun A B => lp (A ++ B)) fun A B A' B' h g => lp_eq.mpr fun k => by rw [coef_app, coef_app, h k, g k]
def LP.mul (a b : LP) : LP := Quotient.liftOn₂ a b (fun A B => lp (prodL A B)) fun A B A' B' h g => lp_eq.mpr fun k => (prod_l h k).trans (prod_r g k)
def lpC (c : Int) : LP := lp [(0, c)]
theorem coef_c (c k : Int) : coef [(0, c)] k = if 0 = k then c else 0 := by
  rw [coef_cons, coef_nil, Int.add_zero]
theorem coef_cmul (c : Int) (A : List (Int × Int)) (k : Int) : coef (prodL [(0, c)] A) k = c * coef A k := by
  rw [coef_prod, sumZ_cons]
  show c * coef A (k - 0) + 0 = _
  rw [Int.sub_zero, Int.add_zero]
theorem LP.ind {P : LP → Prop} (h : ∀ A, P (lp A)) : ∀ a, P a := fun a => Quotient.inductionOn a h
theorem LP.add_zero (a : LP) : LP.add a (lpC 0) = a := LP.ind (P := fun a => LP.add a (lpC 0) = a) (fun A => lp_eq.mpr fun k => by
  rw [coef_app, coef_c]
  split <;> omega) a
theorem LP.add_comm (a b : LP) : LP.add a b = LP.add b a := LP.ind (P := fun a => LP.add a b = LP.add b a) (fun A => LP.ind (P := fun b => LP.add (lp A) b = LP.add b (lp A)) (fun B => lp_eq.mpr fun k => by
  rw [coef_app, coef_app, Int.add_comm]) b) a
theorem LP.mul_comm (a b : LP) : LP.mul a b = LP.mul b a := LP.ind (P := fun a => LP.mul a b = LP.mul b a) (fun A => LP.ind (P := fun b => LP.mul (lp A) b = LP.mul b (lp A)) (fun B => lp_eq.mpr fun k => coef_perm (prodL_comm A B) k) b) a
theorem LP.zero_mul (a : LP) : LP.mul (lpC 0) a = lpC 0 := LP.ind (P := fun a => LP.mul (lpC 0) a = lpC 0) (fun A => lp_eq.mpr fun k => by
  rw [coef_cmul, Int.zero_mul, coef_c]
  split <;> rfl) a
/-! ### k67: sums parted -/
theorem tz_mem {L : List (Int × Int)} {z : Int × Int} : z ∈ tz L ↔ z.2 = coef L z.1 ∧ z.2 ≠ 0 := by
  unfold tz
  rw [List.mem_map]
  constructor
  · rintro ⟨k, hk, rfl⟩
    have := (List.mem_filter.mp hk).2
    simp at this
    exact ⟨rfl, this⟩
  · rintro ⟨h1, h2⟩
    refine ⟨z.1, List.mem_filter.mpr ⟨sk_mem.mpr ?_, ?_⟩, by rw [← h1]⟩
    · by_cases h : z.1 ∈ ksD L
      · exact h
      · exact absurd (h1.trans (coef_none h)) h2
    · rw [← h1]
      simp [h2]
theorem up_uniq : ∀ {A B : List (Int × Int)}, A.Pairwise (fun a b => a.1 < b.1) → B.Pairwise (fun a b => a.1 < b.1) → (∀ z, z ∈ A ↔ z ∈ B) → A = B
  | [], [], _, _, _ => rfl
  | [], b :: B, _, _, h => absurd ((h b).mpr List.mem_cons_self) List.not_mem_nil
  | a :: A, [], _, _, h => absurd ((h a).mp List.mem_cons_self) List.not_mem_nil
  | a :: A, b :: B, hA, hB, h => by
    obtain ⟨a1, a2⟩ := List.pairwise_cons.mp hA
    obtain ⟨b1, b2⟩ := List.pairwise_cons.mp hB
    have hab : a = b := by
      rcases List.mem_cons.mp ((h a).mp List.mem_cons_self) with e | e
      · exact e
      · rcases List.mem_cons.mp ((h b).mpr List.mem_cons_self) with e2 | e2
        · exact e2.symm
        · have := b1 a e
          have := a1 b e2
          omega
    subst hab
    congr 1
    refine up_uniq a2 b2 fun z => ?_
    have hz := h z
    rw [List.mem_cons, List.mem_cons] at hz
    constructor
    · intro hm
      rcases hz.mp (.inr hm) with e | e
      · have := a1 z hm
        rw [e] at this
        omega
      · exact e
    · intro hm
      rcases hz.mpr (.inr hm) with e | e
      · have := b1 z hm
        rw [e] at this
        omega
      · exact e
theorem tz_ext {A B : List (Int × Int)} (h : ∀ k, coef A k = coef B k) : tz A = tz B := up_uniq (tz_up A) (tz_up B) fun z => by
  rw [tz_mem, tz_mem, h]
theorem coef_up_none {L : List (Int × Int)} {k : Int} (h : ∀ z ∈ L, z.1 ≠ k) : coef L k = 0 := by
  induction L with
  | nil => rfl
  | cons z L ih =>
    rw [coef_cons, if_neg (h z List.mem_cons_self), ih fun w hw => h w (List.mem_cons_of_mem _ hw)]
    rfl
theorem coef_up {L : List (Int × Int)} {z : Int × Int} (hL : L.Pairwise (fun a b => a.1 < b.1)) (h : z ∈ L) : coef L z.1 = z.2 := by
  induction L with
  | nil => exact absurd h List.not_mem_nil
  | cons w L ih =>
    obtain ⟨a1, a2⟩ := List.pairwise_cons.mp hL
    rw [coef_cons]
    rcases List.mem_cons.mp h with e | e
    · rw [← e] at a1 ⊢
      rw [if_pos rfl, coef_up_none fun x hx => by have := a1 x hx; omega]
      omega
    · have := a1 z e
      rw [if_neg (by omega), ih a2 e]
      omega
theorem coef_tz (L : List (Int × Int)) (k : Int) : coef (tz L) k = coef L k := by
  by_cases h : coef L k = 0
  · rw [h]
    refine coef_up_none fun z hz e => ?_
    obtain ⟨h1, h2⟩ := tz_mem.mp hz
    rw [e, h] at h1
    exact h2 h1
  · exact coef_up (z := (k, coef L k)) (tz_up L) (tz_mem.mpr ⟨rfl, h⟩)
theorem tz_id {L : List (Int × Int)} (hL : L.Pairwise (fun a b => a.1 < b.1)) (hn : ∀ z ∈ L, z.2 ≠ 0) : tz L = L := up_uniq (tz_up L) hL fun z => by
  rw [tz_mem]
  constructor
  · rintro ⟨h1, h2⟩
    by_cases h : ∃ w ∈ L, w.1 = z.1
    · obtain ⟨w, hw, e⟩ := h
      have := coef_up hL hw
      rw [e, ← h1] at this
      have : w = z := Prod.ext e this.symm
      rw [← this]
      exact hw
    · rw [coef_up_none fun w hw e => h ⟨w, hw, e⟩] at h1
      exact absurd h1 h2
  · intro h
    exact ⟨(coef_up hL h).symm, hn z h⟩
/-! ### k67: parted, gone through -/
theorem down_oo {L : List (Int × Int)} (hl : L.length ≤ 10000) : f_turned_down [.ow (.list (L.map pD))] = some (.val (.ow (.list ((negL L).map pD))), [.ow (.list (L.map pD))]) := by
  have key := compL_map (pr := [0]) (own := [1, 2]) (tg := .t2 (.nm 1) (.nm 2)) (test := fun x => .ok true x) (elt := fun r => cpo (evE c_turned_down [0] e_turned_down_1 r)) (r := [.lk (.list (L.map pD)), .un, .un])
    (f := fun d => match d with | .tuple [x, .int y] => .tuple [x, .int (0 - y)] | d => d) (p := fun _ => true) (ds := L.map pD) (acc := []) (fun d hd => by
    obtain ⟨z, hz, rfl⟩ := List.mem_map.mp hd
    generalize L.map pD = P
    refine ⟨[.lk (.list P), .fz (.int z.1), .fz (.int z.2)], [.lk (.list P), .fz (.int z.1), .fz (.int z.2)], by simp [bindT, setSl, pD], rfl, (fun h => by cases h), fun _ => ⟨[.lk (.list P), .fz (.int z.1), .fz (.int z.2)], ?_, by simp [noLk], by simp [wipeR]⟩⟩
    unfold e_turned_down_1 c_turned_down pD
    simp [p_rd, p_cpo, p_cap, p_st, p_ret, p_arg, p_pk, p_bk, p_lo, p_lk, p_ul, rds, argsOf, setSl, lenOk, exS, exSs, evE, evSs, evCs, evAs, evTs, evI, protOf, outsOf, runF, fnB, Arg.sl, setAt, clCons, clNil, kdIs, isDict, k_bind, k_bindX, k_lift, k_stl1, k_stl2, k_stl3, k_cpo1, k_cpo2, k_rd1, k_rd2, k_bool, k_int, k_lit, k_add, k_sub, k_mul, k_mod, k_fdiv, k_pow, k_catL, k_catT, k_lt, k_le, k_gt, k_ge, k_eqI, k_neI, k_eqB, k_eq, k_ne, k_idxL, k_idxT, k_at, k_at0, k_at1, k_ix, k_lenL, k_lenT, k_abs, k_min, k_max, k_toL, k_toLT, k_toT, k_toTT, k_toI, k_toIB, k_sum, k_all, k_any, k_rng1, k_rng2, k_st1, k_st2, k_ret1, k_ret2, k_arg1, k_arg2, k_pk0, k_pk1, k_pk2, k_bk0, k_bk1, k_bk2, k_nd0, k_nd1, k_unl, k_lk0, k_ul0, k_lo1, k_sqL, k_sqT, k_app, k_clear, k_popAt, k_setD, k_setD0, k_setD1, dupV]) (by
    simp only [List.length_nil, List.length_map]
    omega)
  rw [List.filter_eq_self.mpr fun _ _ => rfl, List.nil_append] at key
  have hm : ((L.map pD).map fun d => match d with | .tuple [x, .int y] => PyData.tuple [x, .int (0 - y)] | d => d) = (negL L).map pD := by
    unfold negL
    rw [List.map_map, List.map_map]
    rfl
  rw [hm] at key
  generalize (negL L).map pD = Q at *
  generalize L.map pD = P at *
  unfold f_turned_down b_turned_down
  unfold c_turned_down at *
  simp [p_rd, p_cpo, p_cap, p_st, p_ret, p_arg, p_pk, p_bk, p_lo, p_lk, p_ul, rds, argsOf, setSl, lenOk, exS, exSs, evE, evSs, evCs, evAs, evTs, evI, protOf, outsOf, runF, fnB, Arg.sl, setAt, clCons, clNil, kdIs, isDict, k_bind, k_bindX, k_lift, k_stl1, k_stl2, k_stl3, k_cpo1, k_cpo2, k_rd1, k_rd2, k_bool, k_int, k_lit, k_add, k_sub, k_mul, k_mod, k_fdiv, k_pow, k_catL, k_catT, k_lt, k_le, k_gt, k_ge, k_eqI, k_neI, k_eqB, k_eq, k_ne, k_idxL, k_idxT, k_at, k_at0, k_at1, k_ix, k_lenL, k_lenT, k_abs, k_min, k_max, k_toL, k_toLT, k_toT, k_toTT, k_toI, k_toIB, k_sum, k_all, k_any, k_rng1, k_rng2, k_st1, k_st2, k_ret1, k_ret2, k_arg1, k_arg2, k_pk0, k_pk1, k_pk2, k_bk0, k_bk1, k_bk2, k_nd0, k_nd1, k_unl, k_lk0, k_ul0, k_lo1, k_sqL, k_sqT, k_app, k_clear, k_popAt, k_setD, k_setD0, k_setD1, dupV, key, wipeOk, wipeR, backR, lockR, unlockR]
theorem minus_oo {A B : List (Int × Int)} (ha : A.length ≤ 1000) (hb : B.length ≤ 1000) : f_minus [.ow (.list (A.map pD)), .ow (.list (B.map pD))] = some (.val (.ow (.list ((tz (A ++ negL B)).map pD))), [.ow (.list (A.map pD)), .ow (.list (B.map pD))]) := by
  have hn : (negL B).length = B.length := by unfold negL; rw [List.length_map]
  have e := tidy_eq (L := A ++ negL B) (by rw [List.length_append]; omega)
  have e2 := down_oo (L := B) (by omega)
  rw [List.map_append] at e
  have hc : binop .add (.list (A.map pD)) (.list ((negL B).map pD)) = some (.fr (.list (A.map pD ++ (negL B).map pD))) := k_catL (decide_eq_true (by rw [List.length_map, List.length_map]; omega))
  generalize (tz (A ++ negL B)).map pD = Q at *
  generalize (negL B).map pD = P3 at *
  generalize A.map pD = P at *
  generalize B.map pD = P2 at *
  unfold f_minus b_minus c_minus
  simp [p_rd, p_cpo, p_cap, p_st, p_ret, p_arg, p_pk, p_bk, p_lo, p_lk, p_ul, rds, argsOf, setSl, lenOk, exS, exSs, evE, evSs, evCs, evAs, evTs, evI, protOf, outsOf, runF, fnB, Arg.sl, setAt, clCons, clNil, kdIs, isDict, k_bind, k_bindX, k_lift, k_stl1, k_stl2, k_stl3, k_cpo1, k_cpo2, k_rd1, k_rd2, k_bool, k_int, k_lit, k_add, k_sub, k_mul, k_mod, k_fdiv, k_pow, k_catL, k_catT, k_lt, k_le, k_gt, k_ge, k_eqI, k_neI, k_eqB, k_eq, k_ne, k_idxL, k_idxT, k_at, k_at0, k_at1, k_ix, k_lenL, k_lenT, k_abs, k_min, k_max, k_toL, k_toLT, k_toT, k_toTT, k_toI, k_toIB, k_sum, k_all, k_any, k_rng1, k_rng2, k_st1, k_st2, k_ret1, k_ret2, k_arg1, k_arg2, k_pk0, k_pk1, k_pk2, k_bk0, k_bk1, k_bk2, k_nd0, k_nd1, k_unl, k_lk0, k_ul0, k_lo1, k_sqL, k_sqT, k_app, k_clear, k_popAt, k_setD, k_setD0, k_setD1, dupV, e, e2, hc]
theorem cut_last (F : List (Int × Int)) (z : Int × Int) : Rk.cutD ((F ++ [z]).map pD) (some (-1)) none = [z].map pD := by
  unfold Rk.cutD HT.sIx
  rw [List.map_append, List.length_append, List.length_map]
  simp only [List.length_map, List.length_singleton]
  rw [if_pos (by omega), show (-1 + ((F.length + 1 : Nat) : Int)).toNat = F.length by omega, List.drop_append_of_le_length (by rw [List.length_map]; exact Nat.le_refl _)]
  rw [List.drop_eq_nil_of_le (by rw [List.length_map]; exact Nat.le_refl _), List.nil_append, show F.length + 1 - F.length = 1 by omega]
  rfl
theorem pL_ne (L : List (Int × Int)) : cmpop .ne (.list (L.map pD)) (.list []) = some (!decide (L = [])) := by
  rw [k_ne (pL_sh L) rfl]
  cases L with
  | nil => rfl
  | cons z L => rfl
theorem pL_nself (L : List (Int × Int)) : cmpop .ne (.list (L.map pD)) (.list (L.map pD)) = some false := by
  rw [k_ne (pL_sh L) (pL_sh L), eqv_self (.list (L.map pD)) (pL_isI L)]
  rfl
/-! ### k61: sums parted -/
theorem coef_top {s t : Int} : ∀ {G O : List (Int × Int)}, (∀ z ∈ G, z.1 ≤ s) → (∀ w ∈ O, w.1 ≤ t) → (∀ k, s + t < k → coef (prodL G O) k = 0) ∧ coef (prodL G O) (s + t) = coef G s * coef O t
  | [], O, _, _ => ⟨fun _ _ => rfl, by show (0 : Int) = 0 * _; rw [Int.zero_mul]⟩
  | z :: G, O, hG, hO => by
    have hz := hG z List.mem_cons_self
    obtain ⟨h1, h2⟩ := coef_top (G := G) (O := O) (fun x hx => hG x (List.mem_cons_of_mem _ hx)) hO
    have c0 : ∀ k, coef (prodL (z :: G) O) k = z.2 * coef O (k - z.1) + coef (prodL G O) k := fun k => by
      rw [coef_prod, coef_prod, sumZ_cons]
    have no : ∀ k, t < k → coef O k = 0 := fun k hk => coef_up_none fun w hw e => by
      have := hO w hw
      omega
    refine ⟨fun k hk => ?_, ?_⟩
    · rw [c0, h1 k hk, no _ (by omega)]
      simp
    · rw [c0, h2, coef_cons]
      by_cases e : z.1 = s
      · rw [if_pos e, e, show s + t - s = t by omega]
        grind
      · rw [if_neg e, no _ (by omega)]
        simp
theorem coef_low {s t : Int} : ∀ {G O : List (Int × Int)}, (∀ z ∈ G, s ≤ z.1) → (∀ w ∈ O, t ≤ w.1) → (∀ k, k < s + t → coef (prodL G O) k = 0) ∧ coef (prodL G O) (s + t) = coef G s * coef O t
  | [], O, _, _ => ⟨fun _ _ => rfl, by show (0 : Int) = 0 * _; rw [Int.zero_mul]⟩
  | z :: G, O, hG, hO => by
    have hz := hG z List.mem_cons_self
    obtain ⟨h1, h2⟩ := coef_low (G := G) (O := O) (fun x hx => hG x (List.mem_cons_of_mem _ hx)) hO
    have c0 : ∀ k, coef (prodL (z :: G) O) k = z.2 * coef O (k - z.1) + coef (prodL G O) k := fun k => by
      rw [coef_prod, coef_prod, sumZ_cons]
    have no : ∀ k, k < t → coef O k = 0 := fun k hk => coef_up_none fun w hw e => by
      have := hO w hw
      omega
    refine ⟨fun k hk => ?_, ?_⟩
    · rw [c0, h1 k hk, no _ (by omega)]
      simp
    · rw [c0, h2, coef_cons]
      by_cases e : z.1 = s
      · rw [if_pos e, e, show s + t - s = t by omega]
        grind
      · rw [if_neg e, no _ (by omega)]
        simp
/-- a sum as the program writes it -/
structure Us (L : List (Int × Int)) : Prop where
  up : L.Pairwise (fun a b => a.1 < b.1)
  nz : ∀ z ∈ L, z.2 ≠ 0
theorem Us.tz (L : List (Int × Int)) : Us (tz L) := ⟨tz_up L, tz_nz L⟩
theorem Us.nil : Us [] := ⟨List.Pairwise.nil, fun _ h => absurd h List.not_mem_nil⟩
theorem Us.last {L : List (Int × Int)} {z : Int × Int} (h : Us (L ++ [z])) : ∀ w ∈ L ++ [z], w.1 ≤ z.1 := fun w hw => by
  rcases List.mem_append.mp hw with g | g
  · have := (List.pairwise_append.mp h.up).2.2 w g z (List.mem_singleton.mpr rfl)
    omega
  · rw [List.mem_singleton.mp g]
    omega
theorem Us.first {L : List (Int × Int)} {z : Int × Int} (h : Us (z :: L)) : ∀ w ∈ z :: L, z.1 ≤ w.1 := fun w hw => by
  rcases List.mem_cons.mp hw with rfl | g
  · omega
  · have := (List.pairwise_cons.mp h.up).1 w g
    omega
theorem Us.cl {L : List (Int × Int)} {z : Int × Int} (h : Us (L ++ [z])) : coef (L ++ [z]) z.1 = z.2 := coef_up h.up (List.mem_append_right _ (List.mem_singleton.mpr rfl))
theorem Us.cf {L : List (Int × Int)} {z : Int × Int} (h : Us (z :: L)) : coef (z :: L) z.1 = z.2 := coef_up h.up List.mem_cons_self
theorem Us.ext {A B : List (Int × Int)} (ha : Us A) (hb : Us B) (h : ∀ k, coef A k = coef B k) : A = B := by
  rw [← tz_id ha.up ha.nz, ← tz_id hb.up hb.nz]
  exact tz_ext h
theorem Us.zero {A : List (Int × Int)} (ha : Us A) (h : ∀ k, coef A k = 0) : A = [] := ha.ext Us.nil fun k => by rw [h]; rfl
theorem snoc_of {L : List (Int × Int)} (h : L ≠ []) : ∃ L' z, L = L' ++ [z] := ⟨L.dropLast, L.getLast h, (List.dropLast_concat_getLast h).symm⟩
theorem cons_of {L : List (Int × Int)} (h : L ≠ []) : ∃ z L', L = z :: L' := by
  cases L with
  | nil => exact absurd rfl h
  | cons z L => exact ⟨z, L, rfl⟩
/-- Q times O is A -/
structure Qu (A O Q : List (Int × Int)) : Prop where
  us : Us Q
  eq : ∀ k, coef A k = coef (prodL Q O) k
theorem coef_prod_sub (Q F O : List (Int × Int)) (k : Int) : coef (prodL (tz (Q ++ negL F)) O) k = coef (prodL Q O) k - coef (prodL F O) k := by
  rw [coef_perm (prodL_comm _ O), coef_perm (prodL_comm Q O), coef_perm (prodL_comm F O)]
  have : ∀ O : List (Int × Int), coef (prodL O (tz (Q ++ negL F))) k = coef (prodL O Q) k - coef (prodL O F) k := fun O => by
    rw [coef_prod, coef_prod, coef_prod]
    induction O with
    | nil => rfl
    | cons w O ih =>
      rw [sumZ_cons, sumZ_cons, sumZ_cons, ih, coef_tz, coef_app, coef_neg]
      grind
  exact this O
theorem coef_prod_snoc (F O : List (Int × Int)) (q : Int × Int) (k : Int) : coef (prodL (F ++ [q]) O) k = coef (prodL F O) k + coef (prodL [q] O) k := by
  unfold prodL
  rw [List.flatMap_append, coef_app]
theorem coef_one (O : List (Int × Int)) (q : Int × Int) (k : Int) : coef (prodL [q] O) k = q.2 * coef O (k - q.1) := by
  rw [coef_prod, sumZ_cons]
  show q.2 * coef O (k - q.1) + 0 = _
  omega
/-- a part begins no lower than it must -/
theorem qu_low {A O Q : List (Int × Int)} {a o : Int × Int} {A' O1 : List (Int × Int)} (ha : A = a :: A') (hA : Us A) (ho : O = o :: O1) (hO : Us O) (h : Qu A O Q) : ∀ z ∈ Q, a.1 ≤ z.1 + o.1 := by
  have hne : Q ≠ [] := fun e => by
    have := h.eq a.1
    rw [e, ha] at this
    rw [ha] at hA
    rw [hA.cf] at this
    exact hA.nz a List.mem_cons_self this
  obtain ⟨q, Q', rfl⟩ := cons_of hne
  rw [ho] at hO
  have hl := (coef_low (G := q :: Q') (O := o :: O1) h.us.first hO.first).2
  rw [h.us.cf, hO.cf] at hl
  have e := h.eq (q.1 + o.1)
  rw [ho, hl] at e
  have hp : q.2 * o.2 ≠ 0 := Int.mul_ne_zero (h.us.nz q List.mem_cons_self) (hO.nz o List.mem_cons_self)
  have hq : a.1 ≤ q.1 + o.1 := by
    refine Classical.byContradiction fun hn => ?_
    rw [ha] at hA e
    rw [coef_up_none fun w hw e' => by have := hA.first w hw; omega] at e
    exact hp e.symm
  intro z hz
  have := h.us.first z hz
  omega
theorem qu_high {A O Q : List (Int × Int)} {a t : Int × Int} {A' O2 : List (Int × Int)} (ha : A = A' ++ [a]) (hA : Us A) (ho : O = O2 ++ [t]) (hO : Us O) (h : Qu A O Q) : ∀ z ∈ Q, z.1 + t.1 ≤ a.1 := by
  have hne : Q ≠ [] := fun e => by
    have := h.eq a.1
    rw [e, ha] at this
    rw [ha] at hA
    rw [hA.cl] at this
    exact hA.nz a (by simp) this
  obtain ⟨Q', q, rfl⟩ := snoc_of hne
  rw [ho] at hO
  have hl := (coef_top (G := Q' ++ [q]) (O := O2 ++ [t]) h.us.last hO.last).2
  rw [h.us.cl, hO.cl] at hl
  have e := h.eq (q.1 + t.1)
  rw [ho, hl] at e
  have hp : q.2 * t.2 ≠ 0 := Int.mul_ne_zero (h.us.nz q (by simp)) (hO.nz t (by simp))
  have hq : q.1 + t.1 ≤ a.1 := by
    refine Classical.byContradiction fun hn => ?_
    rw [ha] at hA e
    rw [coef_up_none fun w hw e' => by have := hA.last w hw; omega] at e
    exact hp e.symm
  intro z hz
  have := h.us.last z hz
  omega
/-- what is left, parted from above: where it may not go on, there is no part -/
theorem down_no {A O F L Q : List (Int × Int)} {a o t z : Int × Int} {A' O1 O2 L' : List (Int × Int)} (ha : A = a :: A') (hA : Us A) (ho : O = o :: O1) (ht : O = O2 ++ [t]) (hO : Us O) (hL : Us L) (hz : L = L' ++ [z])
    (he : ∀ k, coef A k = coef (prodL F O) k + coef L k) (hF : ∀ w ∈ F, a.1 ≤ w.1 + o.1) (h : Qu A O Q) : z.2 % t.2 = 0 ∧ a.1 ≤ z.1 - t.1 + o.1 := by
  have hg : ∀ k, coef L k = coef (prodL (tz (Q ++ negL F)) O) k := fun k => by
    rw [coef_prod_sub, ← h.eq, he]
    omega
  have hu := Us.tz (Q ++ negL F)
  have hlo : ∀ w ∈ tz (Q ++ negL F), a.1 ≤ w.1 + o.1 := fun w hw => by
    refine Classical.byContradiction fun hn => ?_
    obtain ⟨h1, h2⟩ := tz_mem.mp hw
    rw [coef_app, coef_neg, coef_up_none fun x hx e => by have := qu_low ha hA ho hO h x hx; omega, coef_up_none fun x hx e => by have := hF x hx; omega] at h1
    exact h2 h1
  generalize tz (Q ++ negL F) = G at *
  have hne : G ≠ [] := fun e => by
    have := hg z.1
    rw [e, hz] at this
    rw [hz] at hL
    rw [hL.cl] at this
    exact hL.nz z (by simp) this
  obtain ⟨G', g, rfl⟩ := snoc_of hne
  have htop := coef_top (G := G' ++ [g]) (O := O) hu.last (t := t.1) (by rw [ht] at hO ⊢; exact hO.last)
  have hct : coef O t.1 = t.2 := by rw [ht] at hO ⊢; exact hO.cl
  have htn : t.2 ≠ 0 := hO.nz t (by rw [ht]; simp)
  rw [hu.cl, hct] at htop
  have hp : g.2 * t.2 ≠ 0 := Int.mul_ne_zero (hu.nz g (by simp)) htn
  have hzz : z.1 = g.1 + t.1 := by
    rw [hz] at hL hg
    have u1 : ¬ z.1 < g.1 + t.1 := fun hlt => by
      have e := hg (g.1 + t.1)
      rw [htop.2, coef_up_none fun w hw e' => by have := hL.last w hw; omega] at e
      exact hp e.symm
    have u2 : ¬ g.1 + t.1 < z.1 := fun hlt => by
      have e := hg z.1
      rw [htop.1 _ hlt, hL.cl] at e
      exact hL.nz z (by simp) e
    omega
  have hz2 : z.2 = g.2 * t.2 := by
    have e := hg z.1
    rw [hzz, htop.2, ← hzz, hz] at e
    rw [hz] at hL
    rw [hL.cl] at e
    exact e
  refine ⟨by rw [hz2]; exact Int.mul_emod_left _ _, ?_⟩
  have := hlo g (by simp)
  omega
/-- one step from above -/
theorem down_step {A O F L : List (Int × Int)} {a o t z : Int × Int} {A' O1 O2 L' : List (Int × Int)} (ho : O = o :: O1) (ht : O = O2 ++ [t]) (hO : Us O) (hL : Us L) (hz : L = L' ++ [z])
    (he : ∀ k, coef A k = coef (prodL F O) k + coef L k) (hd : z.2 % t.2 = 0) :
    (∀ k, coef A k = coef (prodL (F ++ [(z.1 - t.1, z.2 / t.2)]) O) k + coef (tz (L ++ negL (tz (prodL [(z.1 - t.1, z.2 / t.2)] O)))) k) ∧ (∀ w ∈ tz (L ++ negL (tz (prodL [(z.1 - t.1, z.2 / t.2)] O))), w.1 < z.1) ∧ z.2 / t.2 ≠ 0 := by
  have htn : t.2 ≠ 0 := hO.nz t (by rw [ht]; simp)
  have hzn : z.2 ≠ 0 := hL.nz z (by rw [hz]; simp)
  have hmul : z.2 / t.2 * t.2 = z.2 := Int.ediv_mul_cancel (Int.dvd_of_emod_eq_zero hd)
  have hct : coef O t.1 = t.2 := by rw [ht] at hO ⊢; exact hO.cl
  refine ⟨fun k => ?_, fun w hw => ?_, fun e => ?_⟩
  · rw [coef_prod_snoc, coef_tz, coef_app, coef_neg, coef_tz, he]
    omega
  · obtain ⟨h1, h2⟩ := tz_mem.mp hw
    refine Classical.byContradiction fun hn => ?_
    rw [coef_app, coef_neg, coef_tz, coef_one] at h1
    by_cases e : w.1 = z.1
    · rw [e, show z.1 - (z.1 - t.1) = t.1 by omega, hct, hmul] at h1
      have : coef L z.1 = z.2 := by rw [hz] at hL ⊢; exact hL.cl
      rw [this] at h1
      omega
    · rw [coef_up_none (L := L) fun x hx e' => by
        rw [hz] at hL hx
        have := hL.last x hx
        omega, coef_up_none (L := O) fun x hx e' => by
        rw [ht] at hO hx
        have := hO.last x hx
        have e'' : x.1 = w.1 - (z.1 - t.1) := e'
        omega] at h1
      simp at h1
      exact h2 h1
  · rw [e] at hmul
    simp at hmul
    exact hzn hmul.symm
/-! ### k61: parted, gone through -/
theorem mod_any {v t : Int} (ht : t ≠ 0) (hb : t.natAbs < 2 ^ 20) : ∃ x, binop .mod (.int v) (.int t) = some (.fz (.int x)) ∧ (x = 0 ↔ v % t = 0) := by
  by_cases h : 0 < t
  · exact ⟨v % t, k_mod h, Iff.rfl⟩
  · refine ⟨v.fmod t, k_modN (by omega), ?_⟩
    rw [← Int.dvd_iff_emod_eq_zero]
    exact Int.dvd_iff_fmod_eq_zero.symm
theorem log_small {t : Int} (ht : t ≠ 0) (hb : t.natAbs < 2 ^ 20) : t.natAbs.log2 < 9000 := by
  have := (Nat.log2_lt (by omega)).mpr hb
  omega
theorem fdiv_any {v t : Int} (ht : t ≠ 0) (hb : t.natAbs < 2 ^ 20) (hd : v % t = 0) : binop .fdiv (.int v) (.int t) = some (.fz (.int (v / t))) := by
  by_cases h : 0 < t
  · exact k_fdiv (decide_eq_true ⟨h, log_small ht hb⟩)
  · rw [k_fdivN (by omega) (log_small ht hb), Int.fdiv_eq_ediv_of_dvd (Int.dvd_of_emod_eq_zero hd)]
theorem minus_fo {A B : List (Int × Int)} (ha : A.length ≤ 1000) (hb : B.length ≤ 1000) : f_minus [.fz (.list (A.map pD)), .ow (.list (B.map pD))] = some (.val (.ow (.list ((tz (A ++ negL B)).map pD))), [.fz (.list (A.map pD)), .ow (.list (B.map pD))]) := by
  have hn : (negL B).length = B.length := by unfold negL; rw [List.length_map]
  have e := tidy_eq (L := A ++ negL B) (by rw [List.length_append]; omega)
  have e2 := down_oo (L := B) (by omega)
  rw [List.map_append] at e
  have hc : binop .add (.list (A.map pD)) (.list ((negL B).map pD)) = some (.fr (.list (A.map pD ++ (negL B).map pD))) := k_catL (decide_eq_true (by rw [List.length_map, List.length_map]; omega))
  generalize (tz (A ++ negL B)).map pD = Q at *
  generalize (negL B).map pD = P3 at *
  generalize A.map pD = P at *
  generalize B.map pD = P2 at *
  unfold f_minus b_minus c_minus
  simp [p_rd, p_cpo, p_cap, p_st, p_ret, p_arg, p_pk, p_bk, p_lo, p_lk, p_ul, rds, argsOf, setSl, lenOk, exS, exSs, evE, evSs, evCs, evAs, evTs, evI, protOf, outsOf, runF, fnB, Arg.sl, setAt, clCons, clNil, kdIs, isDict, k_bind, k_bindX, k_lift, k_stl1, k_stl2, k_stl3, k_cpo1, k_cpo2, k_rd1, k_rd2, k_bool, k_int, k_lit, k_add, k_sub, k_mul, k_mod, k_fdiv, k_pow, k_catL, k_catT, k_lt, k_le, k_gt, k_ge, k_eqI, k_neI, k_eqB, k_eq, k_ne, k_idxL, k_idxT, k_at, k_at0, k_at1, k_ix, k_lenL, k_lenT, k_abs, k_min, k_max, k_toL, k_toLT, k_toT, k_toTT, k_toI, k_toIB, k_sum, k_all, k_any, k_rng1, k_rng2, k_st1, k_st2, k_ret1, k_ret2, k_arg1, k_arg2, k_pk0, k_pk1, k_pk2, k_bk0, k_bk1, k_bk2, k_nd0, k_nd1, k_unl, k_lk0, k_ul0, k_lo1, k_sqL, k_sqT, k_app, k_clear, k_popAt, k_setD, k_setD0, k_setD1, dupV, e, e2, hc]
/-- what the sums of the law keep to -/
structure Ok61 (A O : List (Int × Int)) : Prop where
  uA : Us A
  uO : Us O
  bA : Bd 200 40 A
  bO : Bd 100 12 O
  lO : O.length ≤ 60
  nO : O ≠ []
structure Inv61 (A O : List (Int × Int)) (a o t : Int × Int) (m : Nat) (L F : List (Int × Int)) : Prop where
  hm : m ≤ 401
  uL : Us L
  eq : ∀ k, coef A k = coef (prodL F O) k + coef L k
  lo : ∀ w ∈ F, a.1 ≤ w.1 + o.1
  dn : F.Pairwise fun x y => y.1 < x.1
  nz : ∀ w ∈ F, w.2 ≠ 0
  ab : ∀ w ∈ L, ∀ q ∈ F, w.1 < q.1 + t.1
  me : ∀ w ∈ L, w.1 < a.1 + m
  bd : Bd 200 (40 + 40 * (401 - m)) L
  ll : L.length ≤ 401
  lf : F.length ≤ 401 - m
  bf : ∀ w ∈ F, w.2.natAbs < 2 ^ 16100
theorem pL_ltest (L : List (Int × Int)) : cmpop .ne (.list (L.map pD)) (.list []) = some (!decide (L = [])) := pL_ne L
theorem inv_next {A O F L : List (Int × Int)} {a o t z : Int × Int} {A' O1 O2 L' : List (Int × Int)} {m : Nat} (h : Ok61 A O) (ha : A = a :: A') (ho : O = o :: O1) (ht : O = O2 ++ [t]) (hz : L = L' ++ [z]) (hi : Inv61 A O a o t m L F)
    (hd : z.2 % t.2 = 0) (hs : a.1 ≤ z.1 - t.1 + o.1) :
    ∃ m', m' < m ∧ Inv61 A O a o t m' (tz (L ++ negL (tz (prodL [(z.1 - t.1, z.2 / t.2)] O)))) (F ++ [(z.1 - t.1, z.2 / t.2)]) ∧ (tz (prodL [(z.1 - t.1, z.2 / t.2)] O)).length ≤ 60 ∧ (∀ w ∈ O, mulOk (z.2 / t.2) w.2 = true) := by
  obtain ⟨d1, d2, d3⟩ := down_step (a := a) (A' := A') ho ht h.uO hi.uL hz hi.eq hd
  have hzL : z ∈ L := by rw [hz]; simp
  have htO : t ∈ O := by rw [ht]; simp
  have hoO : o ∈ O := by rw [ho]; simp
  have hot : ∀ w ∈ O, o.1 ≤ w.1 ∧ w.1 ≤ t.1 := fun w hw => ⟨by
    have := h.uO
    rw [ho] at this hw
    exact this.first w hw, by
    have := h.uO
    rw [ht] at this hw
    exact this.last w hw⟩
  have hm := hi.hm
  have hme := hi.me z hzL
  have hle : ∀ w ∈ L, w.1 ≤ z.1 := fun w hw => by
    have := hi.uL
    rw [hz] at this hw
    exact this.last w hw
  have hoz := (hot t htO).1
  have haz : a.1 ≤ z.1 := by omega
  have hq : (z.2 / t.2).natAbs < 2 ^ (40 + 40 * (401 - m)) := Nat.lt_of_le_of_lt (Int.natAbs_ediv_le_natAbs _ _) (hi.bd z hzL).2
  have haA : a ∈ A := by rw [ha]; simp
  have hab := h.bA a haA
  have hzb := hi.bd z hzL
  have hp1 : Bd 200 (40 + 40 * (401 - m) + 12) (prodL [(z.1 - t.1, z.2 / t.2)] O) := fun w hw => by
    obtain ⟨x, hx, hw⟩ := List.mem_flatMap.mp hw
    rw [List.mem_singleton.mp hx] at hw
    obtain ⟨y, hy, rfl⟩ := List.mem_map.mp hw
    have := hot y hy
    refine ⟨⟨?_, ?_⟩, ?_⟩
    · show -((200 : Nat) : Int) ≤ z.1 - t.1 + y.1
      omega
    · show z.1 - t.1 + y.1 ≤ ((200 : Nat) : Int)
      omega
    · show (z.2 / t.2 * y.2).natAbs < _
      rw [Int.natAbs_mul, Nat.pow_add]
      exact Nat.mul_lt_mul'' hq (h.bO y hy).2
  have hpl : (prodL [(z.1 - t.1, z.2 / t.2)] O).length ≤ 60 := Nat.le_trans (prodL_len _ _) (by
    show 1 * _ ≤ _
    have := h.lO
    omega)
  have hp2 : Bd 200 (40 + 40 * (401 - m) + 12 + 6) (tz (prodL [(z.1 - t.1, z.2 / t.2)] O)) := tz_bd hp1 (Nat.lt_of_le_of_lt hpl (by decide))
  have hp2l := Nat.le_trans (tz_len (prodL [(z.1 - t.1, z.2 / t.2)] O)) hpl
  have hx : Bd 200 (40 + 40 * (401 - m) + 18) (L ++ negL (tz (prodL [(z.1 - t.1, z.2 / t.2)] O))) := fun w hw => by
    rcases List.mem_append.mp hw with g | g
    · have := hi.bd w g
      exact ⟨this.1, Nat.lt_of_lt_of_le this.2 (Nat.pow_le_pow_right (by decide) (by omega))⟩
    · obtain ⟨y, hy, rfl⟩ := List.mem_map.mp g
      have := hp2 y hy
      refine ⟨this.1, ?_⟩
      show (0 - y.2).natAbs < _
      rw [show (0 - y.2).natAbs = y.2.natAbs by omega]
      exact this.2
  have hxl : (L ++ negL (tz (prodL [(z.1 - t.1, z.2 / t.2)] O))).length < 2 ^ 10 := by
    rw [List.length_append]
    unfold negL
    rw [List.length_map]
    have := hi.ll
    omega
  refine ⟨(z.1 - a.1).toNat, by omega, ⟨by omega, Us.tz _, d1, fun w hw => ?_, ?_, fun w hw => ?_, fun w hw q hq => ?_, fun w hw => ?_, ?_, ?_, ?_, fun w hw => ?_⟩, hp2l, fun w hw => ?_⟩
  · rcases List.mem_append.mp hw with g | g
    · exact hi.lo w g
    · rw [List.mem_singleton.mp g]
      exact hs
  · refine List.pairwise_append.mpr ⟨hi.dn, List.pairwise_singleton _ _, fun x hx y hy => ?_⟩
    rw [List.mem_singleton.mp hy]
    have := hi.ab z hzL x hx
    show z.1 - t.1 < x.1
    omega
  · rcases List.mem_append.mp hw with g | g
    · exact hi.nz w g
    · rw [List.mem_singleton.mp g]
      exact d3
  · have h1 := d2 w hw
    rcases List.mem_append.mp hq with g | g
    · have := hi.ab z hzL q g
      omega
    · rw [List.mem_singleton.mp g]
      show w.1 < z.1 - t.1 + t.1
      omega
  · have := d2 w hw
    omega
  · have := tz_bd hx hxl
    intro w hw
    have := this w hw
    exact ⟨this.1, Nat.lt_of_lt_of_le this.2 (Nat.pow_le_pow_right (by decide) (by omega))⟩
  · exact tz_short hx
  · rw [List.length_append, List.length_singleton]
    have := hi.lf
    omega
  · rcases List.mem_append.mp hw with g | g
    · exact hi.bf w g
    · rw [List.mem_singleton.mp g]
      exact Nat.lt_of_lt_of_le hq (Nat.pow_le_pow_right (by decide) (by omega))
  · exact mulOk_lt (40 + 40 * (401 - m)) 12 hq (h.bO w hw).2 (by omega)
def row61 (A O : List (Int × Int)) (t : Int × Int) (F : List (Int × Int)) (s2 s6 s7 s8 : Sl) : Ro := [.fz (.list (A.map pD)), .fz (.list (O.map pD)), s2, .ow (.list (F.map pD)), .fz (.int t.1), .fz (.int t.2), s6, s7, s8]
theorem step61 {A O F L : List (Int × Int)} {a o t z : Int × Int} {A' O1 O2 L' : List (Int × Int)} {m : Nat} {s2 s6 s7 s8 : Sl} (h : Ok61 A O) (ha : A = a :: A') (ho : O = o :: O1) (ht : O = O2 ++ [t]) (hz : L = L' ++ [z]) (hi : Inv61 A O a o t m L F)
    (q2 : s2 = .ow (.list (L.map pD)) ∨ s2 = .fz (.list (L.map pD))) (q6 : Fzu s6) (q7 : Fzu s7) (q8 : Fzu s8) :
    (z.2 % t.2 = 0 ∧ a.1 ≤ z.1 - t.1 + o.1 ∧ exSs c_parted [] 100000 b_parted_1 (row61 A O t F s2 s6 s7 s8) = .ok .nx (row61 A O t (F ++ [(z.1 - t.1, z.2 / t.2)]) (.ow (.list ((tz (L ++ negL (tz (prodL [(z.1 - t.1, z.2 / t.2)] O)))).map pD))) (.fz (.int (z.1 - t.1))) (.fz (.int z.1)) (.fz (.int z.2)))) ∨
    (¬ (z.2 % t.2 = 0 ∧ a.1 ≤ z.1 - t.1 + o.1) ∧ ∃ t2 t6 t7 t8, exSs c_parted [] 100000 b_parted_1 (row61 A O t F s2 s6 s7 s8) = .ex "NoPart" (row61 A O t F t2 t6 t7 t8)) := by
  have htO : t ∈ O := by rw [ht]; simp
  have htn : t.2 ≠ 0 := h.uO.nz t htO
  have htb : t.2.natAbs < 2 ^ 20 := Nat.lt_of_lt_of_le (h.bO t htO).2 (by decide)
  obtain ⟨x, hx, hx0⟩ := mod_any (v := z.2) htn htb
  have i2 : L2.atI (L.map pD) (-1) = some (.tuple [.int z.1, .int z.2]) := by
    rw [hz, List.map_append]
    exact atI_last _ _
  have i3 : L2.atI (A.map pD) 0 = some (.tuple [.int a.1, .int a.2]) := by
    rw [ha]
    exact k_at0 _ _
  have i4 : L2.atI (O.map pD) 0 = some (.tuple [.int o.1, .int o.2]) := by
    rw [ho]
    exact k_at0 _ _
  by_cases hd : z.2 % t.2 = 0
  · have hx1 : x = 0 := hx0.mpr hd
    by_cases hs : a.1 ≤ z.1 - t.1 + o.1
    · refine .inl ⟨hd, hs, ?_⟩
      obtain ⟨m', _, hn, hpl, hmo⟩ := inv_next h ha ho ht hz hi hd hs
      have hfd := fdiv_any htn htb hd
      have hti := times_ff (A := [(z.1 - t.1, z.2 / t.2)]) (B := O) (fun y hy w hw => by
        rw [List.mem_singleton.mp hy]
        exact hmo w hw) (by have := h.lO; omega) (by
        show 1 * _ ≤ _
        have := h.lO
        omega)
      have hlt : ¬ z.1 - t.1 + o.1 < a.1 := by omega
      have hap : muop .append (.list (F.map pD)) [.tuple [.int (z.1 - t.1), .int (z.2 / t.2)]] = some (.none, .list ((F ++ [(z.1 - t.1, z.2 / t.2)]).map pD)) := by
        rw [k_app (decide_eq_true (by rw [List.length_map]; have := hi.lf; omega)), List.map_append]
        rfl
      have hcut : cutop (.list ((F ++ [(z.1 - t.1, z.2 / t.2)]).map pD)) (some (-1)) none = some (.fr (.list ([(z.1 - t.1, z.2 / t.2)].map pD))) := by
        show some (RV.fr (.list (cutD ((F ++ [(z.1 - t.1, z.2 / t.2)]).map pD) (some (-1)) none))) = _
        congr 3
        exact cut_last _ _
      have hmo := minus_oo (A := L) (B := tz (prodL [(z.1 - t.1, z.2 / t.2)] O)) (by have := hi.ll; omega) (by omega)
      have hmf := minus_fo (A := L) (B := tz (prodL [(z.1 - t.1, z.2 / t.2)] O)) (by have := hi.ll; omega) (by omega)
      have c1 : c_parted "times" = some f_times := rfl
      have c2 : c_parted "minus" = some f_minus := rfl
      subst hx1
      clear hx0 hi hn ha ho ht hz h
      unfold row61
      generalize ([(z.1 - t.1, z.2 / t.2)] : List (Int × Int)).map pD = Z1 at *
      generalize (F ++ [(z.1 - t.1, z.2 / t.2)]).map pD = Z2 at *
      generalize (tz (L ++ negL (tz (prodL [(z.1 - t.1, z.2 / t.2)] O)))).map pD = Z3 at *
      generalize (tz (prodL [(z.1 - t.1, z.2 / t.2)] O)).map pD = Z4 at *
      generalize F.map pD = Z5 at *
      generalize L.map pD = Z6 at *
      generalize A.map pD = Z7 at *
      generalize O.map pD = Z8 at *
      unfold b_parted_1
      rcases q2 with rfl | rfl <;> rcases q6 with rfl | ⟨_, rfl⟩ <;> rcases q7 with rfl | ⟨_, rfl⟩ <;> rcases q8 with rfl | ⟨_, rfl⟩ <;> simp [p_rd, p_cpo, p_cap, p_st, p_ret, p_arg, p_pk, p_bk, p_lo, p_lk, p_ul, rds, argsOf, setSl, lenOk, exS, exSs, evE, evSs, evCs, evAs, evTs, evI, protOf, outsOf, runF, fnB, Arg.sl, setAt, clCons, clNil, kdIs, isDict, k_bind, k_bindX, k_lift, k_stl1, k_stl2, k_stl3, k_cpo1, k_cpo2, k_rd1, k_rd2, k_bool, k_int, k_lit, k_add, k_sub, k_mul, k_mod, k_fdiv, k_pow, k_catL, k_catT, k_lt, k_le, k_gt, k_ge, k_eqI, k_neI, k_eqB, k_eq, k_ne, k_idxL, k_idxT, k_at, k_at0, k_at1, k_ix, k_lenL, k_lenT, k_abs, k_min, k_max, k_toL, k_toLT, k_toT, k_toTT, k_toI, k_toIB, k_sum, k_all, k_any, k_rng1, k_rng2, k_st1, k_st2, k_ret1, k_ret2, k_arg1, k_arg2, k_pk0, k_pk1, k_pk2, k_bk0, k_bk1, k_bk2, k_nd0, k_nd1, k_unl, k_lk0, k_ul0, k_lo1, k_sqL, k_sqT, k_app, k_clear, k_popAt, k_setD, k_setD0, k_setD1, dupV, bindT, setSl, i2, i3, i4, hx, hlt, hfd, hap, hcut, hti, hmo, hmf, c1, c2]
    · refine .inr ⟨fun e => hs e.2, ?_⟩
      have hlt : z.1 - t.1 + o.1 < a.1 := by omega
      subst hx1
      clear hx0 hi ha ho ht hz h
      unfold row61
      generalize F.map pD = Z5 at *
      generalize L.map pD = Z6 at *
      generalize A.map pD = Z7 at *
      generalize O.map pD = Z8 at *
      unfold b_parted_1
      refine ⟨s2, .fz (.int (z.1 - t.1)), .fz (.int z.1), .fz (.int z.2), ?_⟩
      rcases q2 with rfl | rfl <;> rcases q6 with rfl | ⟨_, rfl⟩ <;> rcases q7 with rfl | ⟨_, rfl⟩ <;> rcases q8 with rfl | ⟨_, rfl⟩ <;> simp [p_rd, p_cpo, p_cap, p_st, p_ret, p_arg, p_pk, p_bk, p_lo, p_lk, p_ul, rds, argsOf, setSl, lenOk, exS, exSs, evE, evSs, evCs, evAs, evTs, evI, protOf, outsOf, runF, fnB, Arg.sl, setAt, clCons, clNil, kdIs, isDict, k_bind, k_bindX, k_lift, k_stl1, k_stl2, k_stl3, k_cpo1, k_cpo2, k_rd1, k_rd2, k_bool, k_int, k_lit, k_add, k_sub, k_mul, k_mod, k_fdiv, k_pow, k_catL, k_catT, k_lt, k_le, k_gt, k_ge, k_eqI, k_neI, k_eqB, k_eq, k_ne, k_idxL, k_idxT, k_at, k_at0, k_at1, k_ix, k_lenL, k_lenT, k_abs, k_min, k_max, k_toL, k_toLT, k_toT, k_toTT, k_toI, k_toIB, k_sum, k_all, k_any, k_rng1, k_rng2, k_st1, k_st2, k_ret1, k_ret2, k_arg1, k_arg2, k_pk0, k_pk1, k_pk2, k_bk0, k_bk1, k_bk2, k_nd0, k_nd1, k_unl, k_lk0, k_ul0, k_lo1, k_sqL, k_sqT, k_app, k_clear, k_popAt, k_setD, k_setD0, k_setD1, dupV, bindT, setSl, i2, i3, i4, hx, hlt]
  · refine .inr ⟨fun e => hd e.1, ?_⟩
    have hx1 : ¬ x = 0 := fun e => hd (hx0.mp e)
    clear hx0 hi ha ho ht hz h
    unfold row61
    generalize F.map pD = Z5 at *
    generalize L.map pD = Z6 at *
    generalize A.map pD = Z7 at *
    generalize O.map pD = Z8 at *
    unfold b_parted_1
    refine ⟨s2, .fz (.int (z.1 - t.1)), .fz (.int z.1), .fz (.int z.2), ?_⟩
    rcases q2 with rfl | rfl <;> rcases q6 with rfl | ⟨_, rfl⟩ <;> rcases q7 with rfl | ⟨_, rfl⟩ <;> rcases q8 with rfl | ⟨_, rfl⟩ <;> simp [p_rd, p_cpo, p_cap, p_st, p_ret, p_arg, p_pk, p_bk, p_lo, p_lk, p_ul, rds, argsOf, setSl, lenOk, exS, exSs, evE, evSs, evCs, evAs, evTs, evI, protOf, outsOf, runF, fnB, Arg.sl, setAt, clCons, clNil, kdIs, isDict, k_bind, k_bindX, k_lift, k_stl1, k_stl2, k_stl3, k_cpo1, k_cpo2, k_rd1, k_rd2, k_bool, k_int, k_lit, k_add, k_sub, k_mul, k_mod, k_fdiv, k_pow, k_catL, k_catT, k_lt, k_le, k_gt, k_ge, k_eqI, k_neI, k_eqB, k_eq, k_ne, k_idxL, k_idxT, k_at, k_at0, k_at1, k_ix, k_lenL, k_lenT, k_abs, k_min, k_max, k_toL, k_toLT, k_toT, k_toTT, k_toI, k_toIB, k_sum, k_all, k_any, k_rng1, k_rng2, k_st1, k_st2, k_ret1, k_ret2, k_arg1, k_arg2, k_pk0, k_pk1, k_pk2, k_bk0, k_bk1, k_bk2, k_nd0, k_nd1, k_unl, k_lk0, k_ul0, k_lo1, k_sqL, k_sqT, k_app, k_clear, k_popAt, k_setD, k_setD0, k_setD1, dupV, bindT, setSl, i2, i3, i4, hx, hx1]
theorem while61 {A O : List (Int × Int)} {a o t : Int × Int} {A' O1 O2 : List (Int × Int)} (h : Ok61 A O) (ha : A = a :: A') (ho : O = o :: O1) (ht : O = O2 ++ [t]) : ∀ (fu m : Nat) (L F : List (Int × Int)) (s2 s6 s7 s8 : Sl), m < fu → Inv61 A O a o t m L F →
    (s2 = .ow (.list (L.map pD)) ∨ s2 = .fz (.list (L.map pD))) → Fzu s6 → Fzu s7 → Fzu s8 →
    (∃ F' t2 t6 t7 t8, whileL (fun r => (evE c_parted [] w_parted_1 r).bind fun x r => asBool x r) (exSs c_parted [] 100000 b_parted_1) fu (row61 A O t F s2 s6 s7 s8) = .ok .nx (row61 A O t F' t2 t6 t7 t8) ∧ Qu A O F'.reverse ∧ F'.length ≤ 401 ∧ ∀ w ∈ F', w.2.natAbs < 2 ^ 16100) ∨
    ∃ F' t2 t6 t7 t8, whileL (fun r => (evE c_parted [] w_parted_1 r).bind fun x r => asBool x r) (exSs c_parted [] 100000 b_parted_1) fu (row61 A O t F s2 s6 s7 s8) = .ex "NoPart" (row61 A O t F' t2 t6 t7 t8) ∧ ¬ ∃ Q, Qu A O Q
  | 0, m, L, F, s2, s6, s7, s8, hm, _, _, _, _, _ => absurd hm (Nat.not_lt_zero m)
  | fu + 1, m, L, F, s2, s6, s7, s8, hm, hi, q2, q6, q7, q8 => by
    have hc : (evE c_parted [] w_parted_1 (row61 A O t F s2 s6 s7 s8)).bind (fun x r => asBool x r) = .ok (!decide (L = [])) (row61 A O t F s2 s6 s7 s8) := by
      have e := pL_ltest L
      unfold row61 w_parted_1
      generalize decide (L = []) = v at *
      generalize L.map pD = Z1 at *
      generalize F.map pD = Z2 at *
      generalize A.map pD = Z3 at *
      generalize O.map pD = Z4 at *
      rcases q2 with rfl | rfl <;> simp [p_rd, p_cpo, p_cap, p_st, p_ret, p_arg, p_pk, p_bk, p_lo, p_lk, p_ul, rds, argsOf, setSl, lenOk, exS, exSs, evE, evSs, evCs, evAs, evTs, evI, protOf, outsOf, runF, fnB, Arg.sl, setAt, clCons, clNil, kdIs, isDict, k_bind, k_bindX, k_lift, k_stl1, k_stl2, k_stl3, k_cpo1, k_cpo2, k_rd1, k_rd2, k_bool, k_int, k_lit, k_add, k_sub, k_mul, k_mod, k_fdiv, k_pow, k_catL, k_catT, k_lt, k_le, k_gt, k_ge, k_eqI, k_neI, k_eqB, k_eq, k_ne, k_idxL, k_idxT, k_at, k_at0, k_at1, k_ix, k_lenL, k_lenT, k_abs, k_min, k_max, k_toL, k_toLT, k_toT, k_toTT, k_toI, k_toIB, k_sum, k_all, k_any, k_rng1, k_rng2, k_st1, k_st2, k_ret1, k_ret2, k_arg1, k_arg2, k_pk0, k_pk1, k_pk2, k_bk0, k_bk1, k_bk2, k_nd0, k_nd1, k_unl, k_lk0, k_ul0, k_lo1, k_sqL, k_sqT, k_app, k_clear, k_popAt, k_setD, k_setD0, k_setD1, dupV, e, asBool]
    by_cases hL : L = []
    · refine .inl ⟨F, s2, s6, s7, s8, ?_, ⟨⟨?_, fun z hz => hi.nz z (List.mem_reverse.mp hz)⟩, fun k => ?_⟩, ?_, hi.bf⟩
      · rw [decide_eq_true hL] at hc
        simp only [whileL, hc]
        rfl
      · rw [List.pairwise_reverse]
        exact hi.dn
      · rw [hi.eq, hL]
        have : coef (prodL F.reverse O) k = coef (prodL F O) k := coef_perm (List.Perm.flatMap_right _ (List.reverse_perm F)) k
        rw [this]
        show _ + 0 = _
        omega
      · have := hi.lf
        omega
    · obtain ⟨L', z, hz⟩ := snoc_of hL
      rw [decide_eq_false hL] at hc
      rcases step61 h ha ho ht hz hi q2 q6 q7 q8 with ⟨hd, hs, e⟩ | ⟨hn, t2, t6, t7, t8, e⟩
      · obtain ⟨m', hm', hi', _, _⟩ := inv_next h ha ho ht hz hi hd hs
        rcases while61 h ha ho ht fu m' _ _ _ _ _ _ (by omega) hi' (.inl rfl) (.inr ⟨_, rfl⟩) (.inr ⟨_, rfl⟩) (.inr ⟨_, rfl⟩) with ⟨F', t2, t6, t7, t8, e2, q⟩ | ⟨F', t2, t6, t7, t8, e2, q⟩
        · exact .inl ⟨F', t2, t6, t7, t8, by simp only [whileL, hc, Bool.not_false, e]; exact e2, q⟩
        · exact .inr ⟨F', t2, t6, t7, t8, by simp only [whileL, hc, Bool.not_false, e]; exact e2, q⟩
      · exact .inr ⟨F, t2, t6, t7, t8, by simp only [whileL, hc, Bool.not_false, e], fun ⟨Q, hQ⟩ => hn (down_no ha h.uA ho ht h.uO hi.uL hz hi.eq hi.lo hQ)⟩
theorem us_len {W a : Nat} {L : List (Int × Int)} (hu : Us L) (hb : Bd W a L) : L.length ≤ 2 * W + 1 := by
  have := tz_short hb
  rw [tz_id hu.up hu.nz] at this
  exact this
theorem parted61 {A O : List (Int × Int)} (h : Ok61 A O) : (∃ Q, Qu A O Q ∧ Q.length ≤ 401 ∧ (∀ w ∈ Q, w.2.natAbs < 2 ^ 16100) ∧ f_parted [.fz (.list (A.map pD)), .fz (.list (O.map pD))] = some (.val (.ow (.list (Q.map pD))), [.fz (.list (A.map pD)), .fz (.list (O.map pD))])) ∨
    ((¬ ∃ Q, Qu A O Q) ∧ f_parted [.fz (.list (A.map pD)), .fz (.list (O.map pD))] = some (.ex "NoPart", [.fz (.list (A.map pD)), .fz (.list (O.map pD))])) := by
  obtain ⟨O2, t, ht⟩ := snoc_of h.nO
  obtain ⟨o, O1, ho⟩ := cons_of h.nO
  have i2 : L2.atI (O.map pD) (-1) = some (.tuple [.int t.1, .int t.2]) := by
    rw [ht, List.map_append]
    exact atI_last _ _
  have fin : ∀ F : List (Int × Int), (F.map pD).reverse = F.reverse.map pD := fun F => List.map_reverse.symm
  by_cases hA : A = []
  · refine .inl ⟨[], ⟨Us.nil, fun k => by rw [hA]; rfl⟩, by simp, fun w hw => absurd hw List.not_mem_nil, ?_⟩
    subst hA
    have e := pL_ltest []
    rw [decide_eq_true rfl] at e
    rw [List.map_nil] at e
    show f_parted [.fz (.list []), .fz (.list (O.map pD))] = some (.val (.ow (.list [])), [.fz (.list []), .fz (.list (O.map pD))])
    generalize O.map pD = Z at *
    have hw : ∀ s6 s7 s8 : Sl, whileL (fun r => (evE c_parted [] w_parted_1 r).bind fun x r => asBool x r) (exSs c_parted [] 100000 b_parted_1) 100000 [.fz (.list []), .fz (.list Z), .fz (.list []), .ow (.list []), .fz (.int t.1), .fz (.int t.2), s6, s7, s8] = .ok .nx [.fz (.list []), .fz (.list Z), .fz (.list []), .ow (.list []), .fz (.int t.1), .fz (.int t.2), s6, s7, s8] := fun s6 s7 s8 => by
      have hc : (evE c_parted [] w_parted_1 [.fz (.list []), .fz (.list Z), .fz (.list []), .ow (.list []), .fz (.int t.1), .fz (.int t.2), s6, s7, s8]).bind (fun x r => asBool x r) = .ok false [.fz (.list []), .fz (.list Z), .fz (.list []), .ow (.list []), .fz (.int t.1), .fz (.int t.2), s6, s7, s8] := by
        unfold w_parted_1
        simp [p_rd, p_cpo, p_cap, p_st, p_ret, p_arg, p_pk, p_bk, p_lo, p_lk, p_ul, rds, argsOf, setSl, lenOk, exS, exSs, evE, evSs, evCs, evAs, evTs, evI, protOf, outsOf, runF, fnB, Arg.sl, setAt, clCons, clNil, kdIs, isDict, k_bind, k_bindX, k_lift, k_stl1, k_stl2, k_stl3, k_cpo1, k_cpo2, k_rd1, k_rd2, k_bool, k_int, k_lit, k_add, k_sub, k_mul, k_mod, k_fdiv, k_pow, k_catL, k_catT, k_lt, k_le, k_gt, k_ge, k_eqI, k_neI, k_eqB, k_eq, k_ne, k_idxL, k_idxT, k_at, k_at0, k_at1, k_ix, k_lenL, k_lenT, k_abs, k_min, k_max, k_toL, k_toLT, k_toT, k_toTT, k_toI, k_toIB, k_sum, k_all, k_any, k_rng1, k_rng2, k_st1, k_st2, k_ret1, k_ret2, k_arg1, k_arg2, k_pk0, k_pk1, k_pk2, k_bk0, k_bk1, k_bk2, k_nd0, k_nd1, k_unl, k_lk0, k_ul0, k_lo1, k_sqL, k_sqT, k_app, k_clear, k_popAt, k_setD, k_setD0, k_setD1, dupV, e, asBool]
      rw [show (100000 : Nat) = 99999 + 1 from rfl]
      simp only [whileL, hc]
    have hw1 := hw .un .un .un
    generalize hB : exSs c_parted [] 100000 b_parted_1 = BD at *
    generalize hcc : (fun r => (evE c_parted [] w_parted_1 r).bind fun x r => asBool x r) = cc at *
    unfold f_parted b_parted
    simp [p_rd, p_cpo, p_cap, p_st, p_ret, p_arg, p_pk, p_bk, p_lo, p_lk, p_ul, rds, argsOf, setSl, lenOk, exS, exSs, evE, evSs, evCs, evAs, evTs, evI, protOf, outsOf, runF, fnB, Arg.sl, setAt, clCons, clNil, kdIs, isDict, k_bind, k_bindX, k_lift, k_stl1, k_stl2, k_stl3, k_cpo1, k_cpo2, k_rd1, k_rd2, k_bool, k_int, k_lit, k_add, k_sub, k_mul, k_mod, k_fdiv, k_pow, k_catL, k_catT, k_lt, k_le, k_gt, k_ge, k_eqI, k_neI, k_eqB, k_eq, k_ne, k_idxL, k_idxT, k_at, k_at0, k_at1, k_ix, k_lenL, k_lenT, k_abs, k_min, k_max, k_toL, k_toLT, k_toT, k_toTT, k_toI, k_toIB, k_sum, k_all, k_any, k_rng1, k_rng2, k_st1, k_st2, k_ret1, k_ret2, k_arg1, k_arg2, k_pk0, k_pk1, k_pk2, k_bk0, k_bk1, k_bk2, k_nd0, k_nd1, k_unl, k_lk0, k_ul0, k_lo1, k_sqL, k_sqT, k_app, k_clear, k_popAt, k_setD, k_setD0, k_setD1, dupV, bindT, setSl, i2, hB, hcc, hw1]
  · obtain ⟨a, A', ha⟩ := cons_of hA
    have hal := us_len h.uA h.bA
    have haA : a ∈ A := by rw [ha]; simp
    have hi : Inv61 A O a o t 401 A [] := ⟨Nat.le_refl _, h.uA, fun k => by show _ = 0 + _; omega, fun w hw => absurd hw List.not_mem_nil, List.Pairwise.nil, fun w hw => absurd hw List.not_mem_nil, fun w _ q hq => absurd hq List.not_mem_nil, fun w hw => by
      have h1 := (h.bA w hw).1
      have h2 := (h.bA a haA).1
      omega, h.bA, hal, Nat.zero_le _, fun w hw => absurd hw List.not_mem_nil⟩
    rcases while61 h ha ho ht 100000 401 A [] (.fz (.list (A.map pD))) .un .un .un (by omega) hi (.inr rfl) (.inl rfl) (.inl rfl) (.inl rfl) with ⟨F', t2, t6, t7, t8, e, q1, q2, q3⟩ | ⟨F', t2, t6, t7, t8, e, q⟩
    · refine .inl ⟨F'.reverse, q1, by rw [List.length_reverse]; exact q2, fun w hw => q3 w (List.mem_reverse.mp hw), ?_⟩
      have hr := fin F'
      clear q1 q3 hi
      unfold row61 at e
      rw [List.map_nil] at e
      generalize F'.reverse.map pD = Z1 at *
      generalize F'.map pD = Z2 at *
      generalize A.map pD = Z3 at *
      generalize O.map pD = Z4 at *
      generalize hB : exSs c_parted [] 100000 b_parted_1 = BD at *
      generalize hcc : (fun r => (evE c_parted [] w_parted_1 r).bind fun x r => asBool x r) = cc at *
      unfold f_parted b_parted
      simp [p_rd, p_cpo, p_cap, p_st, p_ret, p_arg, p_pk, p_bk, p_lo, p_lk, p_ul, rds, argsOf, setSl, lenOk, exS, exSs, evE, evSs, evCs, evAs, evTs, evI, protOf, outsOf, runF, fnB, Arg.sl, setAt, clCons, clNil, kdIs, isDict, k_bind, k_bindX, k_lift, k_stl1, k_stl2, k_stl3, k_cpo1, k_cpo2, k_rd1, k_rd2, k_bool, k_int, k_lit, k_add, k_sub, k_mul, k_mod, k_fdiv, k_pow, k_catL, k_catT, k_lt, k_le, k_gt, k_ge, k_eqI, k_neI, k_eqB, k_eq, k_ne, k_idxL, k_idxT, k_at, k_at0, k_at1, k_ix, k_lenL, k_lenT, k_abs, k_min, k_max, k_toL, k_toLT, k_toT, k_toTT, k_toI, k_toIB, k_sum, k_all, k_any, k_rng1, k_rng2, k_st1, k_st2, k_ret1, k_ret2, k_arg1, k_arg2, k_pk0, k_pk1, k_pk2, k_bk0, k_bk1, k_bk2, k_nd0, k_nd1, k_unl, k_lk0, k_ul0, k_lo1, k_sqL, k_sqT, k_app, k_clear, k_popAt, k_setD, k_setD0, k_setD1, dupV, bindT, setSl, i2, hB, hcc, e, hr]
    · refine .inr ⟨q, ?_⟩
      clear q hi
      unfold row61 at e
      rw [List.map_nil] at e
      generalize F'.map pD = Z2 at *
      generalize A.map pD = Z3 at *
      generalize O.map pD = Z4 at *
      generalize hB : exSs c_parted [] 100000 b_parted_1 = BD at *
      generalize hcc : (fun r => (evE c_parted [] w_parted_1 r).bind fun x r => asBool x r) = cc at *
      unfold f_parted b_parted
      simp [p_rd, p_cpo, p_cap, p_st, p_ret, p_arg, p_pk, p_bk, p_lo, p_lk, p_ul, rds, argsOf, setSl, lenOk, exS, exSs, evE, evSs, evCs, evAs, evTs, evI, protOf, outsOf, runF, fnB, Arg.sl, setAt, clCons, clNil, kdIs, isDict, k_bind, k_bindX, k_lift, k_stl1, k_stl2, k_stl3, k_cpo1, k_cpo2, k_rd1, k_rd2, k_bool, k_int, k_lit, k_add, k_sub, k_mul, k_mod, k_fdiv, k_pow, k_catL, k_catT, k_lt, k_le, k_gt, k_ge, k_eqI, k_neI, k_eqB, k_eq, k_ne, k_idxL, k_idxT, k_at, k_at0, k_at1, k_ix, k_lenL, k_lenT, k_abs, k_min, k_max, k_toL, k_toLT, k_toT, k_toTT, k_toI, k_toIB, k_sum, k_all, k_any, k_rng1, k_rng2, k_st1, k_st2, k_ret1, k_ret2, k_arg1, k_arg2, k_pk0, k_pk1, k_pk2, k_bk0, k_bk1, k_bk2, k_nd0, k_nd1, k_unl, k_lk0, k_ul0, k_lo1, k_sqL, k_sqT, k_app, k_clear, k_popAt, k_setD, k_setD0, k_setD1, dupV, bindT, setSl, i2, hB, hcc, e]
/-! ### k61: upward -/
theorem merge_dict : ∀ (B A : List (Int × Int)), Us (A ++ B) → (A ++ B).length ≤ 1000 → mergeD (dictD A) (B.map fun z => (PyData.int z.1, PyData.int z.2)) = dictD (A ++ B)
  | [], A, _, _ => by rw [List.append_nil]; rfl
  | z :: B, A, hu, hl => by
    have hc : coef A z.1 = 0 := coef_up_none fun w hw e => by
      have := (List.pairwise_append.mp hu.up).2.2 w hw z List.mem_cons_self
      omega
    have hs := dictD_set A z.1 z.2 (by rw [List.length_append] at hl; omega)
    have hf := dictD_fit A z.1
    have hlo : lenOk (dictD A).length = true := decide_eq_true (by
      unfold dictD
      rw [List.length_map]
      have := ksD_len A
      rw [List.length_append] at hl
      omega)
    have hs2 : setD (.dict (dictD A)) (.int z.1) (.int (coef A z.1 + z.2)) = some (.dict (dPut (dictD A) (.int z.1) (.int (coef A z.1 + z.2)))) := if_pos (by rw [hf, hlo]; rfl)
    rw [hs, hc, Int.zero_add] at hs2
    have e : dPut (dictD A) (.int z.1) (.int z.2) = dictD (A ++ [z]) := (PyData.dict.inj (Option.some.inj hs2)).symm
    show mergeD (dPut (dictD A) (.int z.1) (.int z.2)) (B.map fun z => (PyData.int z.1, PyData.int z.2)) = _
    rw [e]
    have := merge_dict B (A ++ [z]) (by rw [List.append_assoc]; exact hu) (by rw [List.append_assoc]; exact hl)
    rw [List.append_assoc] at this
    exact this
theorem pairsD_pD : ∀ A : List (Int × Int), pairsD (A.map pD) = some (A.map fun z => (PyData.int z.1, PyData.int z.2))
  | [] => rfl
  | z :: A => by
    have := pairsD_pD A
    rw [List.map_cons, List.map_cons]
    show (pairsD (A.map pD)).map ((.int z.1, .int z.2) :: ·) = _
    rw [this]
    rfl
theorem todict_eq {A : List (Int × Int)} (hu : Us A) (hl : A.length ≤ 1000) : biop .toDict [.list (A.map pD)] = some (.fr (.dict (dictD A))) := by
  show (if lenOk (A.map pD).length then (pairsD (A.map pD)).map fun ds => RV.fr (.dict (mergeD [] ds)) else none) = _
  rw [if_pos (show lenOk (A.map pD).length = true from decide_eq_true (by rw [List.length_map]; omega)), pairsD_pD]
  have := merge_dict A [] hu hl
  rw [List.nil_append] at this
  show some (RV.fr (.dict (mergeD [] _))) = _
  rw [show ([] : List (D × D)) = dictD [] from rfl, this]
def lessL (s c : Int) (O : List (Int × Int)) : List (Int × Int) := O.map fun w => (s + w.1, 0 - c * w.2)
theorem coef_less (s c : Int) : ∀ (O : List (Int × Int)) (k : Int), coef (lessL s c O) k = 0 - c * coef O (k - s)
  | [], k => by show (0 : Int) = 0 - c * 0; simp
  | w :: O, k => by
    have ih := coef_less s c O k
    show coef ((s + w.1, 0 - c * w.2) :: lessL s c O) k = _
    rw [coef_cons, coef_cons, ih]
    by_cases e : s + w.1 = k
    · rw [if_pos e, if_pos (show w.1 = k - s by omega)]
      grind
    · rw [if_neg e, if_neg (show ¬ w.1 = k - s by omega)]
      grind
def rowU (s0 s1 : Sl) (o : Int × Int) (L F : List (Int × Int)) (s4 s7 s8 s9 : Sl) : Ro := [s0, s1, .ow (.dict (dictD L)), .ow (.list (F.map pD)), s4, .fz (.int o.1), .fz (.int o.2), s7, s8, s9]
theorem up_in {pr : List Nat} {s0 s1 : Sl} (hpr : pr = [] ∨ pr = [0, 1]) {o : Int × Int} {F : List (Int × Int)} {s x : Int} (ho : o.2 ≠ 0) (hob : o.2.natAbs < 2 ^ 20) (hx : x % o.2 = 0) : ∀ (P L : List (Int × Int)) (s8 s9 : Sl), (∀ w ∈ P, mulOk (x / o.2) w.2 = true) → L.length + P.length ≤ 100000 → Fzu s8 → Fzu s9 →
    ∃ t8 t9, forL pr (.t2 (.nm 8) (.nm 9)) (exSs c_law_upward pr 100000 b_law_upward_1) (P.map pD) (rowU s0 s1 o L F (.fz (.int s)) (.fz (.int x)) s8 s9) = .ok .nx (rowU s0 s1 o (L ++ lessL s (x / o.2) P) F (.fz (.int s)) (.fz (.int x)) t8 t9) ∧ Fzu t8 ∧ Fzu t9
  | [], L, s8, s9, _, _, q8, q9 => ⟨s8, s9, by rw [show lessL s (x / o.2) [] = [] from rfl, List.append_nil]; rfl, q8, q9⟩
  | w :: P, L, s8, s9, hm, hl, q8, q9 => by
    rw [List.length_cons] at hl
    obtain ⟨t8, t9, e, p8, p9⟩ := up_in (s0 := s0) (s1 := s1) hpr (F := F) (s := s) ho hob hx P (L ++ [(s + w.1, 0 - x / o.2 * w.2)]) (.fz (.int w.1)) (.fz (.int w.2)) (fun y hy => hm y (List.mem_cons_of_mem _ hy)) (by rw [List.length_append, List.length_singleton]; omega) (.inr ⟨_, rfl⟩) (.inr ⟨_, rfl⟩)
    refine ⟨t8, t9, ?_, p8, p9⟩
    rw [List.append_assoc, List.singleton_append] at e
    have hb : bindT pr (.t2 (.nm 8) (.nm 9)) (pD w) (rowU s0 s1 o L F (.fz (.int s)) (.fz (.int x)) s8 s9) = some (rowU s0 s1 o L F (.fz (.int s)) (.fz (.int x)) (.fz (.int w.1)) (.fz (.int w.2))) := by
      unfold pD rowU
      rcases hpr with rfl | rfl <;> rcases q8 with rfl | ⟨d, rfl⟩ <;> rcases q9 with rfl | ⟨d', rfl⟩ <;> simp [bindT, setSl]
    have hfd := fdiv_any ho hob hx
    have hg := dictD_get L (s + w.1)
    have hs := dictD_set L (s + w.1) (0 - x / o.2 * w.2) (by omega)
    have hmu := hm w List.mem_cons_self
    rw [show coef L (s + w.1) + (0 - x / o.2 * w.2) = coef L (s + w.1) - x / o.2 * w.2 by omega] at hs
    have hbody : exSs c_law_upward pr 100000 b_law_upward_1 (rowU s0 s1 o L F (.fz (.int s)) (.fz (.int x)) (.fz (.int w.1)) (.fz (.int w.2))) = .ok .nx (rowU s0 s1 o (L ++ [(s + w.1, 0 - x / o.2 * w.2)]) F (.fz (.int s)) (.fz (.int x)) (.fz (.int w.1)) (.fz (.int w.2))) := by
      unfold rowU
      clear e hb hm
      generalize F.map pD = Z5 at *
      generalize dictD (L ++ [(s + w.1, 0 - x / o.2 * w.2)]) = Z9 at *
      generalize dictD L = Z10 at *
      generalize coef L (s + w.1) = cc at *
      unfold b_law_upward_1
      rcases hpr with rfl | rfl <;> simp [p_rd, p_cpo, p_cap, p_st, p_ret, p_arg, p_pk, p_bk, p_lo, p_lk, p_ul, rds, argsOf, setSl, lenOk, exS, exSs, evE, evSs, evCs, evAs, evTs, evI, protOf, outsOf, runF, fnB, Arg.sl, setAt, clCons, clNil, kdIs, isDict, k_bind, k_bindX, k_lift, k_stl1, k_stl2, k_stl3, k_cpo1, k_cpo2, k_rd1, k_rd2, k_bool, k_int, k_lit, k_add, k_sub, k_mul, k_mod, k_fdiv, k_pow, k_catL, k_catT, k_lt, k_le, k_gt, k_ge, k_eqI, k_neI, k_eqB, k_eq, k_ne, k_idxL, k_idxT, k_at, k_at0, k_at1, k_ix, k_lenL, k_lenT, k_abs, k_min, k_max, k_toL, k_toLT, k_toT, k_toTT, k_toI, k_toIB, k_sum, k_all, k_any, k_rng1, k_rng2, k_st1, k_st2, k_ret1, k_ret2, k_arg1, k_arg2, k_pk0, k_pk1, k_pk2, k_bk0, k_bk1, k_bk2, k_nd0, k_nd1, k_unl, k_lk0, k_ul0, k_lo1, k_sqL, k_sqT, k_app, k_clear, k_popAt, k_setD, k_setD0, k_setD1, dupV, sameK, hfd, hg, hs, hmu]
    rw [List.map_cons]
    simp only [forL, hb, hbody]
    exact e
structure InvU (A O : List (Int × Int)) (o : Int × Int) (b0 s : Int) (j : Nat) (L F : List (Int × Int)) : Prop where
  uF : Us F
  eq : ∀ k, coef A k = coef (prodL F O) k + coef L k
  ze : ∀ k, k < s + o.1 → coef L k = 0
  hi : ∀ w ∈ F, w.1 < s
  cb : ∀ k, (coef L k).natAbs < 2 ^ (50 + 20 * j)
  ll : L.length ≤ 401 + 60 * j
  lf : F.length ≤ j
theorem up_no {A O F L Q : List (Int × Int)} {o : Int × Int} {O1 : List (Int × Int)} {b0 s : Int} {j : Nat} (h : Ok61 A O) (ho : O = o :: O1) (hi : InvU A O o b0 s j L F) (hQ : Qu A O Q) : (∀ w ∈ tz (Q ++ negL F), s ≤ w.1) ∧ (∀ k, coef L k = coef (prodL (tz (Q ++ negL F)) O) k) ∧ coef L (s + o.1) % o.2 = 0 := by
  have hg : ∀ k, coef L k = coef (prodL (tz (Q ++ negL F)) O) k := fun k => by
    rw [coef_prod_sub, ← hQ.eq, hi.eq]
    omega
  have hu := Us.tz (Q ++ negL F)
  have hO := h.uO
  rw [ho] at hO
  have hon : o.2 ≠ 0 := hO.nz o List.mem_cons_self
  have hlo : ∀ w ∈ tz (Q ++ negL F), s ≤ w.1 := by
    generalize tz (Q ++ negL F) = G at *
    cases G with
    | nil => exact fun w hw => absurd hw List.not_mem_nil
    | cons g G' =>
      have hl := (coef_low (G := g :: G') (O := o :: O1) hu.first hO.first).2
      rw [hu.cf, hO.cf, ← ho, ← hg] at hl
      have hp : g.2 * o.2 ≠ 0 := Int.mul_ne_zero (hu.nz g List.mem_cons_self) hon
      have hs : s ≤ g.1 := by
        refine Classical.byContradiction fun hn => hp ?_
        rw [← hl]
        exact hi.ze _ (by omega)
      intro w hw
      have := hu.first w hw
      omega
  refine ⟨hlo, hg, ?_⟩
  have hl := (coef_low (G := tz (Q ++ negL F)) (O := o :: O1) hlo hO.first).2
  rw [hO.cf, ← ho, ← hg] at hl
  rw [hl]
  exact Int.mul_emod_left _ _
/-- a list while it is gone through -/
def lkS : Sl → Sl
  | .ow d => .lk d
  | x => x
def Kn61 (A O : List (Int × Int)) (pr : List Nat) (s0 s1 : Sl) : Prop := (pr = [] ∧ s0 = .fz (.list (A.map pD)) ∧ s1 = .fz (.list (O.map pD))) ∨ (pr = [0, 1] ∧ s0 = .ow (.list (A.map pD)) ∧ s1 = .ow (.list (O.map pD)))
theorem up_turn {pr : List Nat} {s0 s1 : Sl} {A O F L : List (Int × Int)} {o : Int × Int} {O1 : List (Int × Int)} {b0 s : Int} {j : Nat} {s7 s8 s9 : Sl} (hk : Kn61 A O pr s0 s1) (h : Ok61 A O) (ho : O = o :: O1) (hj : j ≤ 401) (hi : InvU A O o b0 s j L F) (q7 : Fzu s7) (q8 : Fzu s8) (q9 : Fzu s9) :
    (∃ L' F' t7 t8 t9, exSs c_law_upward pr 100000 b_law_upward_2 (rowU s0 s1 o L F (.fz (.int s)) s7 s8 s9) = .ok .nx (rowU s0 s1 o L' F' (.fz (.int s)) t7 t8 t9) ∧ InvU A O o b0 (s + 1) (j + 1) L' F' ∧ Fzu t7 ∧ Fzu t8 ∧ Fzu t9) ∨
    ((¬ ∃ Q, Qu A O Q) ∧ ∃ t7, exSs c_law_upward pr 100000 b_law_upward_2 (rowU s0 s1 o L F (.fz (.int s)) s7 s8 s9) = .ok (.rt (.fz .none)) (rowU s0 s1 o L F (.fz (.int s)) t7 s8 s9)) := by
  have hoO : o ∈ O := by rw [ho]; simp
  have hon : o.2 ≠ 0 := h.uO.nz o hoO
  have hob : o.2.natAbs < 2 ^ 20 := Nat.lt_of_lt_of_le (h.bO o hoO).2 (by decide)
  obtain ⟨y, hy, hy0⟩ := mod_any (v := coef L (s + o.1)) hon hob
  have hg := dictD_get L (s + o.1)
  by_cases hd : coef L (s + o.1) % o.2 = 0
  · have hy1 : y = 0 := hy0.mpr hd
    subst hy1
    by_cases hx : coef L (s + o.1) = 0
    · refine .inl ⟨L, F, .fz (.int 0), s8, s9, ?_, ⟨hi.uF, hi.eq, fun k hk' => ?_, fun w hw => by have := hi.hi w hw; omega, fun k => Nat.lt_of_lt_of_le (hi.cb k) (Nat.pow_le_pow_right (by decide) (by omega)), by have := hi.ll; omega, by have := hi.lf; omega⟩, .inr ⟨_, rfl⟩, q8, q9⟩
      · rw [hx] at hy hg
        unfold rowU
        clear hi hy0 hd
        generalize F.map pD = Z5 at *
        unfold Kn61 at hk
        generalize A.map pD = Z7 at *
        generalize O.map pD = Z8 at *
        generalize dictD L = Z10 at *
        generalize hB : exSs c_law_upward pr 100000 b_law_upward_1 = BD at *
        unfold b_law_upward_2
        rcases hk with ⟨rfl, rfl, rfl⟩ | ⟨rfl, rfl, rfl⟩ <;> rcases q7 with rfl | ⟨_, rfl⟩ <;> simp [p_rd, p_cpo, p_cap, p_st, p_ret, p_arg, p_pk, p_bk, p_lo, p_lk, p_ul, rds, argsOf, setSl, lenOk, exS, exSs, evE, evSs, evCs, evAs, evTs, evI, protOf, outsOf, runF, fnB, Arg.sl, setAt, clCons, clNil, kdIs, isDict, k_bind, k_bindX, k_lift, k_stl1, k_stl2, k_stl3, k_cpo1, k_cpo2, k_rd1, k_rd2, k_bool, k_int, k_lit, k_add, k_sub, k_mul, k_mod, k_fdiv, k_pow, k_catL, k_catT, k_lt, k_le, k_gt, k_ge, k_eqI, k_neI, k_eqB, k_eq, k_ne, k_idxL, k_idxT, k_at, k_at0, k_at1, k_ix, k_lenL, k_lenT, k_abs, k_min, k_max, k_toL, k_toLT, k_toT, k_toTT, k_toI, k_toIB, k_sum, k_all, k_any, k_rng1, k_rng2, k_st1, k_st2, k_ret1, k_ret2, k_arg1, k_arg2, k_pk0, k_pk1, k_pk2, k_bk0, k_bk1, k_bk2, k_nd0, k_nd1, k_unl, k_lk0, k_ul0, k_lo1, k_sqL, k_sqT, k_app, k_clear, k_popAt, k_setD, k_setD0, k_setD1, dupV, sameK, hg, hy]
      · by_cases e : k = s + o.1
        · rw [e]; exact hx
        · exact hi.ze k (by omega)
    · have hq : (coef L (s + o.1) / o.2).natAbs < 2 ^ (50 + 20 * j) := Nat.lt_of_le_of_lt (Int.natAbs_ediv_le_natAbs _ _) (hi.cb _)
      obtain ⟨t8, t9, e, p8, p9⟩ := up_in (pr := pr) (s0 := s0) (s1 := lkS s1) (by rcases hk with ⟨g, _⟩ | ⟨g, _⟩ <;> simp [g]) (o := o) (F := F ++ [(s, coef L (s + o.1) / o.2)]) (s := s) hon hob hd O L s8 s9 (fun w hw => mulOk_lt _ 12 hq (h.bO w hw).2 (by omega)) (by have := hi.ll; have := h.lO; omega) q8 q9
      have hmul : coef L (s + o.1) / o.2 * o.2 = coef L (s + o.1) := Int.ediv_mul_cancel (Int.dvd_of_emod_eq_zero hd)
      have hO := h.uO
      have hof : ∀ w ∈ O, o.1 ≤ w.1 := by rw [ho] at hO ⊢; exact hO.first
      have hoc : coef O o.1 = o.2 := by rw [ho] at hO ⊢; exact hO.cf
      have hfd := fdiv_any hon hob hd
      refine .inl ⟨L ++ lessL s (coef L (s + o.1) / o.2) O, F ++ [(s, coef L (s + o.1) / o.2)], .fz (.int (coef L (s + o.1))), t8, t9, ?_, ⟨⟨?_, fun w hw => ?_⟩, fun k => ?_, fun k hk' => ?_, fun w hw => ?_, fun k => ?_, ?_, ?_⟩, .inr ⟨_, rfl⟩, p8, p9⟩
      · have hap : muop .append (.list (F.map pD)) [.tuple [.int s, .int (coef L (s + o.1) / o.2)]] = some (.none, .list ((F ++ [(s, coef L (s + o.1) / o.2)]).map pD)) := by
          rw [k_app (decide_eq_true (by rw [List.length_map]; have := hi.lf; omega)), List.map_append]
          rfl
        unfold rowU at *
        clear hi hy0 hd hq hoc hof hmul
        generalize (F ++ [(s, coef L (s + o.1) / o.2)]).map pD = Z6 at *
        generalize F.map pD = Z5 at *
        unfold Kn61 at hk
        generalize A.map pD = Z7 at *
        generalize O.map pD = Z8 at *
        generalize dictD (L ++ lessL s (coef L (s + o.1) / o.2) O) = Z11 at *
        generalize dictD L = Z10 at *
        generalize coef L (s + o.1) = cc at *
        generalize hB : exSs c_law_upward pr 100000 b_law_upward_1 = BD at *
        unfold b_law_upward_2
        rcases hk with ⟨rfl, rfl, rfl⟩ | ⟨rfl, rfl, rfl⟩ <;> unfold lkS at e <;> simp only [] at e <;> rcases q7 with rfl | ⟨_, rfl⟩ <;> simp [p_rd, p_cpo, p_cap, p_st, p_ret, p_arg, p_pk, p_bk, p_lo, p_lk, p_ul, rds, argsOf, setSl, lenOk, exS, exSs, evE, evSs, evCs, evAs, evTs, evI, protOf, outsOf, runF, fnB, Arg.sl, setAt, clCons, clNil, kdIs, isDict, k_bind, k_bindX, k_lift, k_stl1, k_stl2, k_stl3, k_cpo1, k_cpo2, k_rd1, k_rd2, k_bool, k_int, k_lit, k_add, k_sub, k_mul, k_mod, k_fdiv, k_pow, k_catL, k_catT, k_lt, k_le, k_gt, k_ge, k_eqI, k_neI, k_eqB, k_eq, k_ne, k_idxL, k_idxT, k_at, k_at0, k_at1, k_ix, k_lenL, k_lenT, k_abs, k_min, k_max, k_toL, k_toLT, k_toT, k_toTT, k_toI, k_toIB, k_sum, k_all, k_any, k_rng1, k_rng2, k_st1, k_st2, k_ret1, k_ret2, k_arg1, k_arg2, k_pk0, k_pk1, k_pk2, k_bk0, k_bk1, k_bk2, k_nd0, k_nd1, k_unl, k_lk0, k_ul0, k_lo1, k_sqL, k_sqT, k_app, k_clear, k_popAt, k_setD, k_setD0, k_setD1, dupV, sameK, hB, hg, hy, hx, hfd, hap, e]
      · refine List.pairwise_append.mpr ⟨hi.uF.up, List.pairwise_singleton _ _, fun x hx' y' hy' => ?_⟩
        rw [List.mem_singleton.mp hy']
        exact hi.hi x hx'
      · rcases List.mem_append.mp hw with g | g
        · exact hi.uF.nz w g
        · rw [List.mem_singleton.mp g]
          intro e0
          have e0 : coef L (s + o.1) / o.2 = 0 := e0
          rw [e0, Int.zero_mul] at hmul
          exact hx hmul.symm
      · rw [coef_prod_snoc, coef_one, coef_app, coef_less, hi.eq]
        show _ = _ + coef L (s + o.1) / o.2 * coef O (k - s) + (_ + (0 - coef L (s + o.1) / o.2 * coef O (k - s)))
        omega
      · rw [coef_app, coef_less]
        by_cases e' : k = s + o.1
        · rw [e', show s + o.1 - s = o.1 by omega, hoc, hmul]
          omega
        · rw [hi.ze k (by omega), coef_up_none (L := O) fun w hw e'' => by have := hof w hw; omega]
          simp
      · rcases List.mem_append.mp hw with g | g
        · have := hi.hi w g
          omega
        · rw [List.mem_singleton.mp g]
          show s < s + 1
          omega
      · rw [coef_app, coef_less]
        have hb1 := hi.cb k
        have hb2 : (coef O (k - s)).natAbs < 2 ^ (12 + 6) := coef_lt h.bO (by have := h.lO; omega) _
        have hb3 : (coef L (s + o.1) / o.2 * coef O (k - s)).natAbs < 2 ^ (50 + 20 * j + 18) := by
          rw [Int.natAbs_mul, Nat.pow_add]
          exact Nat.mul_lt_mul'' hq hb2
        have hp1 : (2 : Nat) ^ (50 + 20 * j) ≤ 2 ^ (50 + 20 * j + 18) := Nat.pow_le_pow_right (by decide) (by omega)
        have hp2 : 2 ^ (50 + 20 * (j + 1)) = 2 ^ (50 + 20 * j + 18) * 4 := by
          rw [show 50 + 20 * (j + 1) = 50 + 20 * j + 18 + 2 by omega, Nat.pow_add]
        generalize coef L (s + o.1) / o.2 * coef O (k - s) = u at *
        generalize coef L k = v at *
        rw [hp2]
        generalize (2 : Nat) ^ (50 + 20 * j + 18) = W at *
        generalize (2 : Nat) ^ (50 + 20 * j) = W2 at *
        omega
      · rw [List.length_append]
        unfold lessL
        rw [List.length_map]
        have := hi.ll
        have := h.lO
        omega
      · rw [List.length_append, List.length_singleton]
        have := hi.lf
        omega
  · refine .inr ⟨fun ⟨Q, hQ⟩ => hd (up_no h ho hi hQ).2.2, .fz (.int (coef L (s + o.1))), ?_⟩
    have hy1 : ¬ y = 0 := fun e => hd (hy0.mp e)
    unfold rowU
    clear hi hy0 hd
    generalize F.map pD = Z5 at *
    unfold Kn61 at hk
    generalize A.map pD = Z7 at *
    generalize O.map pD = Z8 at *
    generalize dictD L = Z10 at *
    generalize coef L (s + o.1) = cc at *
    generalize hB : exSs c_law_upward pr 100000 b_law_upward_1 = BD at *
    unfold b_law_upward_2
    rcases hk with ⟨rfl, rfl, rfl⟩ | ⟨rfl, rfl, rfl⟩ <;> rcases q7 with rfl | ⟨_, rfl⟩ <;> simp [p_rd, p_cpo, p_cap, p_st, p_ret, p_arg, p_pk, p_bk, p_lo, p_lk, p_ul, rds, argsOf, setSl, lenOk, exS, exSs, evE, evSs, evCs, evAs, evTs, evI, protOf, outsOf, runF, fnB, Arg.sl, setAt, clCons, clNil, kdIs, isDict, k_bind, k_bindX, k_lift, k_stl1, k_stl2, k_stl3, k_cpo1, k_cpo2, k_rd1, k_rd2, k_bool, k_int, k_lit, k_add, k_sub, k_mul, k_mod, k_fdiv, k_pow, k_catL, k_catT, k_lt, k_le, k_gt, k_ge, k_eqI, k_neI, k_eqB, k_eq, k_ne, k_idxL, k_idxT, k_at, k_at0, k_at1, k_ix, k_lenL, k_lenT, k_abs, k_min, k_max, k_toL, k_toLT, k_toT, k_toTT, k_toI, k_toIB, k_sum, k_all, k_any, k_rng1, k_rng2, k_st1, k_st2, k_ret1, k_ret2, k_arg1, k_arg2, k_pk0, k_pk1, k_pk2, k_bk0, k_bk1, k_bk2, k_nd0, k_nd1, k_unl, k_lk0, k_ul0, k_lo1, k_sqL, k_sqT, k_app, k_clear, k_popAt, k_setD, k_setD0, k_setD1, dupV, sameK, hg, hy, hy1]
/-! ### k61: upward, whole -/
theorem up_loop {pr : List Nat} {s0 s1 : Sl} {A O : List (Int × Int)} {o : Int × Int} {O1 : List (Int × Int)} {b0 : Int} (hk : Kn61 A O pr s0 s1) (h : Ok61 A O) (ho : O = o :: O1) : ∀ (N : Nat) (s : Int) (j : Nat) (L F : List (Int × Int)) (s4 s7 s8 s9 : Sl), j + N ≤ 401 → InvU A O o b0 s j L F → Fzu s4 → Fzu s7 → Fzu s8 → Fzu s9 →
    (∃ L' F' t4 t7 t8 t9, forL pr (.nm 4) (exSs c_law_upward pr 100000 b_law_upward_2) ((List.range N).map fun i : Nat => PyData.int (s + i)) (rowU s0 s1 o L F s4 s7 s8 s9) = .ok .nx (rowU s0 s1 o L' F' t4 t7 t8 t9) ∧ InvU A O o b0 (s + N) (j + N) L' F' ∧ Fzu t8) ∨
    ((¬ ∃ Q, Qu A O Q) ∧ ∃ L' F' t4 t7 t8 t9, forL pr (.nm 4) (exSs c_law_upward pr 100000 b_law_upward_2) ((List.range N).map fun i : Nat => PyData.int (s + i)) (rowU s0 s1 o L F s4 s7 s8 s9) = .ok (.rt (.fz .none)) (rowU s0 s1 o L' F' t4 t7 t8 t9))
  | 0, s, j, L, F, s4, s7, s8, s9, _, hi, _, _, q8, _ => .inl ⟨L, F, s4, s7, s8, s9, rfl, by
    rw [show s + ((0 : Nat) : Int) = s by omega]
    exact hi, q8⟩
  | N + 1, s, j, L, F, s4, s7, s8, s9, hj, hi, q4, q7, q8, q9 => by
    have hcons : ((List.range (N + 1)).map fun i : Nat => PyData.int (s + i)) = PyData.int s :: (List.range N).map fun i : Nat => PyData.int (s + 1 + i) := by
      rw [List.range_succ_eq_map, List.map_cons, List.map_map]
      congr 1
      · show PyData.int (s + ((0 : Nat) : Int)) = _
        rw [show s + ((0 : Nat) : Int) = s by omega]
      · refine List.map_congr_left fun i _ => ?_
        show PyData.int (s + ((i + 1 : Nat) : Int)) = _
        congr 1
        omega
    have hb : bindT pr (.nm 4) (.int s) (rowU s0 s1 o L F s4 s7 s8 s9) = some (rowU s0 s1 o L F (.fz (.int s)) s7 s8 s9) := by
      unfold rowU
      unfold Kn61 at hk
      rcases hk with ⟨rfl, rfl, rfl⟩ | ⟨rfl, rfl, rfl⟩ <;> rcases q4 with rfl | ⟨d, rfl⟩ <;> simp [bindT, setSl]
    rcases up_turn (s7 := s7) (s8 := s8) (s9 := s9) hk h ho (by omega) hi q7 q8 q9 with ⟨L1, F1, t7, t8, t9, e1, hi1, p7, p8, p9⟩ | ⟨hn, t7, e1⟩
    · rcases up_loop hk h ho N (s + 1) (j + 1) L1 F1 (.fz (.int s)) t7 t8 t9 (by omega) hi1 (.inr ⟨_, rfl⟩) p7 p8 p9 with ⟨L', F', u4, u7, u8, u9, e, hi', g8⟩ | ⟨hn, L', F', u4, u7, u8, u9, e⟩
      · refine .inl ⟨L', F', u4, u7, u8, u9, ?_, ?_, g8⟩
        · rw [hcons, ← e]
          simp only [forL, hb, e1]
        · rw [show s + ((N + 1 : Nat) : Int) = s + 1 + (N : Nat) by omega, show j + (N + 1) = j + 1 + N by omega]
          exact hi'
      · refine .inr ⟨hn, L', F', u4, u7, u8, u9, ?_⟩
        rw [hcons, ← e]
        simp only [forL, hb, e1]
    · refine .inr ⟨hn, L, F, .fz (.int s), t7, s8, s9, ?_⟩
      rw [hcons]
      simp only [forL, hb, e1]
theorem up_comp {pr : List Nat} {s0 s1 : Sl} (hpr : pr = [] ∨ pr = [0, 1]) {o : Int × Int} {L : List (Int × Int)} {s3 s4 s7 s9 : Sl} (hl : (ksD L).length ≤ 100000) :
    compL pr [8] (.nm 8) (fun x => .ok true x) (fun r => cpo (evE c_law_upward pr e_law_upward_1 r)) ((ksD L).map PyData.int) [] [s0, s1, .lk (.dict (dictD L)), s3, s4, .fz (.int o.1), .fz (.int o.2), s7, .un, s9] = .ok (((ksD L).map (coef L)).map PyData.int) [s0, s1, .lk (.dict (dictD L)), s3, s4, .fz (.int o.1), .fz (.int o.2), s7, .un, s9] := by
  rw [compL_via (g := fun k => PyData.int (coef L k)) (ksD L) [] (fun k hk => ?_) (by simp; omega), List.nil_append, List.map_map]
  · rfl
  · have hi := dictD_idx hk
    refine ⟨[s0, s1, .lk (.dict (dictD L)), s3, s4, .fz (.int o.1), .fz (.int o.2), s7, .fz (.int k), s9], [s0, s1, .lk (.dict (dictD L)), s3, s4, .fz (.int o.1), .fz (.int o.2), s7, .fz (.int k), s9], by rcases hpr with rfl | rfl <;> simp [bindT, setSl], ?_, by simp [noLk], by simp [wipeR]⟩
    generalize dictD L = Z10 at *
    generalize coef L k = cc at *
    unfold e_law_upward_1
    rcases hpr with rfl | rfl <;> simp [p_rd, p_cpo, p_cap, p_st, p_ret, p_arg, p_pk, p_bk, p_lo, p_lk, p_ul, rds, argsOf, setSl, lenOk, exS, exSs, evE, evSs, evCs, evAs, evTs, evI, protOf, outsOf, runF, fnB, Arg.sl, setAt, clCons, clNil, kdIs, isDict, k_bind, k_bindX, k_lift, k_stl1, k_stl2, k_stl3, k_cpo1, k_cpo2, k_rd1, k_rd2, k_bool, k_int, k_lit, k_add, k_sub, k_mul, k_mod, k_fdiv, k_pow, k_catL, k_catT, k_lt, k_le, k_gt, k_ge, k_eqI, k_neI, k_eqB, k_eq, k_ne, k_idxL, k_idxT, k_at, k_at0, k_at1, k_ix, k_lenL, k_lenT, k_abs, k_min, k_max, k_toL, k_toLT, k_toT, k_toTT, k_toI, k_toIB, k_sum, k_all, k_any, k_rng1, k_rng2, k_st1, k_st2, k_ret1, k_ret2, k_arg1, k_arg2, k_pk0, k_pk1, k_pk2, k_bk0, k_bk1, k_bk2, k_nd0, k_nd1, k_unl, k_lk0, k_ul0, k_lo1, k_sqL, k_sqT, k_app, k_clear, k_popAt, k_setD, k_setD0, k_setD1, dupV, hi]
theorem anyI_eq (ns : List Int) : biop .anyI [.list (ns.map PyData.int)] = some (.fz (.bool (ns.any fun i => i != 0))) := by
  show (intsD (ns.map PyData.int)).map (fun ns => RV.fz (.bool (ns.any fun i => i != 0))) = _
  have : ∀ ns : List Int, intsD (ns.map PyData.int) = some ns := fun ns => by
    induction ns with
    | nil => rfl
    | cons n ns ih =>
      show (intsD (ns.map PyData.int)).map (n :: ·) = _
      rw [ih]
      rfl
  rw [this]
  rfl
theorem dictD_keys (L : List (Int × Int)) : dKeys (dictD L) = (ksD L).map PyData.int := by
  unfold dictD
  generalize coef L = c
  have : ∀ ks : List Int, dKeys (ks.map fun k => (PyData.int k, PyData.int (c k))) = ks.map PyData.int := fun ks => by
    unfold dKeys
    cases ks with
    | nil => rfl
    | cons k ks =>
      show ((k :: ks).map fun k => (PyData.int k, PyData.int (c k))).map (·.1) = _
      rw [List.map_map]
      rfl
  exact this _
def KA61 (A O : List (Int × Int)) (x y : Rk.Arg) : Prop := (x = .fz (.list (A.map pD)) ∧ y = .fz (.list (O.map pD))) ∨ (x = .ow (.list (A.map pD)) ∧ y = .ow (.list (O.map pD)))
theorem up61 {A O : List (Int × Int)} {xa ya : Rk.Arg} (hK : KA61 A O xa ya) (h : Ok61 A O) : (∃ Q x, Qu A O Q ∧ (x = .fz (.list (Q.map pD)) ∨ x = .ow (.list (Q.map pD))) ∧ f_law_upward [xa, ya] = some (.val x, [xa, ya])) ∨
    ((¬ ∃ Q, Qu A O Q) ∧ f_law_upward [xa, ya] = some (.val (.fz .none), [xa, ya])) := by
  obtain ⟨pr, s0, s1, hk, hKs⟩ : ∃ pr s0 s1, Kn61 A O pr s0 s1 ∧ ((pr = [] ∧ xa = .fz (.list (A.map pD)) ∧ ya = .fz (.list (O.map pD)) ∧ s0 = .fz (.list (A.map pD)) ∧ s1 = .fz (.list (O.map pD))) ∨ (pr = [0, 1] ∧ xa = .ow (.list (A.map pD)) ∧ ya = .ow (.list (O.map pD)) ∧ s0 = .ow (.list (A.map pD)) ∧ s1 = .ow (.list (O.map pD)))) := by
    rcases hK with ⟨rfl, rfl⟩ | ⟨rfl, rfl⟩
    · exact ⟨[], _, _, .inl ⟨rfl, rfl, rfl⟩, .inl ⟨rfl, rfl, rfl, rfl, rfl⟩⟩
    · exact ⟨[0, 1], _, _, .inr ⟨rfl, rfl, rfl⟩, .inr ⟨rfl, rfl, rfl, rfl, rfl⟩⟩
  have hpr : pr = [] ∨ pr = [0, 1] := by rcases hKs with ⟨g, _⟩ | ⟨g, _⟩ <;> simp [g]
  clear hK
  obtain ⟨O2, t, ht⟩ := snoc_of h.nO
  obtain ⟨o, O1, ho⟩ := cons_of h.nO
  have i1 : L2.atI (O.map pD) 0 = some (.tuple [.int o.1, .int o.2]) := by
    rw [ho]
    exact k_at0 _ _
  have i2 : L2.atI (O.map pD) (-1) = some (.tuple [.int t.1, .int t.2]) := by
    rw [ht, List.map_append]
    exact atI_last _ _
  have hal := us_len h.uA h.bA
  have td := todict_eq h.uA (by omega)
  have hpe : cmpop .eq (.list (A.map pD)) (.list []) = some (decide (A = [])) := by
    rw [k_eq (pL_sh A) rfl]
    cases A with
    | nil => rfl
    | cons z A => rfl
  by_cases hA : A = []
  · refine .inl ⟨[], .ow (.list []), ⟨Us.nil, fun k => by rw [hA]; rfl⟩, .inr rfl, ?_⟩
    rw [decide_eq_true hA] at hpe
    clear h ho ht hk
    generalize dictD A = Z10 at *
    generalize A.map pD = Z7 at *
    generalize O.map pD = Z8 at *
    unfold f_law_upward b_law_upward
    rcases hKs with ⟨rfl, rfl, rfl, rfl, rfl⟩ | ⟨rfl, rfl, rfl, rfl, rfl⟩ <;> simp [p_rd, p_cpo, p_cap, p_st, p_ret, p_arg, p_pk, p_bk, p_lo, p_lk, p_ul, rds, argsOf, setSl, lenOk, exS, exSs, evE, evSs, evCs, evAs, evTs, evI, protOf, outsOf, runF, fnB, Arg.sl, setAt, clCons, clNil, kdIs, isDict, k_bind, k_bindX, k_lift, k_stl1, k_stl2, k_stl3, k_cpo1, k_cpo2, k_rd1, k_rd2, k_bool, k_int, k_lit, k_add, k_sub, k_mul, k_mod, k_fdiv, k_pow, k_catL, k_catT, k_lt, k_le, k_gt, k_ge, k_eqI, k_neI, k_eqB, k_eq, k_ne, k_idxL, k_idxT, k_at, k_at0, k_at1, k_ix, k_lenL, k_lenT, k_abs, k_min, k_max, k_toL, k_toLT, k_toT, k_toTT, k_toI, k_toIB, k_sum, k_all, k_any, k_rng1, k_rng2, k_st1, k_st2, k_ret1, k_ret2, k_arg1, k_arg2, k_pk0, k_pk1, k_pk2, k_bk0, k_bk1, k_bk2, k_nd0, k_nd1, k_unl, k_lk0, k_ul0, k_lo1, k_sqL, k_sqT, k_app, k_clear, k_popAt, k_setD, k_setD0, k_setD1, dupV, bindT, setSl, td, i1, hpe]
  · rw [decide_eq_false hA] at hpe
    obtain ⟨a, A', ha⟩ := cons_of hA
    obtain ⟨A2, a2, ha2⟩ := snoc_of hA
    have i3 : L2.atI (A.map pD) 0 = some (.tuple [.int a.1, .int a.2]) := by
      rw [ha]
      exact k_at0 _ _
    have i4 : L2.atI (A.map pD) (-1) = some (.tuple [.int a2.1, .int a2.2]) := by
      rw [ha2, List.map_append]
      exact atI_last _ _
    have b1 := h.bA a (by rw [ha]; simp)
    have b2 := h.bA a2 (by rw [ha2]; simp)
    have b3 := h.bO o (by rw [ho]; simp)
    have b4 := h.bO t (by rw [ht]; simp)
    have hot : o.1 ≤ t.1 := by
      have := h.uO
      rw [ho] at this
      refine this.first t ?_
      rw [← ho, ht]
      simp
    have haa : ∀ w ∈ A, a.1 ≤ w.1 := by
      have := h.uA
      rw [ha] at this ⊢
      exact this.first
    obtain ⟨N, hN⟩ : ∃ N, (a2.1 - t.1 + 1 - (a.1 - o.1)).toNat = N := ⟨_, rfl⟩
    have hi : InvU A O o (a.1 - o.1) (a.1 - o.1) 0 A [] := ⟨Us.nil, fun k => by show _ = 0 + _; omega, fun k hk => coef_up_none fun w hw e => by have := haa w hw; omega, fun w hw => absurd hw List.not_mem_nil, fun k => Nat.lt_of_lt_of_le (coef_lt (c := 10) h.bA (by omega) k) (Nat.pow_le_pow_right (by decide) (by omega)), by omega, Nat.zero_le _⟩
    have hrg : itemsRng [.int (a.1 - o.1), .int (a2.1 - t.1 + 1)] = some ((List.range N).map fun i : Nat => PyData.int (a.1 - o.1 + i)) := by
      rw [k_rng2 (by omega), hN]
      rfl
    rcases up_loop hk h ho N (a.1 - o.1) 0 A [] .un .un .un .un (by omega) hi (.inl rfl) (.inl rfl) (.inl rfl) (.inl rfl) with ⟨L', F', u4, u7, u8, u9, e, hi', g8⟩ | ⟨hn, L', F', u4, u7, u8, u9, e⟩
    · have hkl : (ksD L').length ≤ 100000 := by
        have := ksD_len L'
        have := hi'.ll
        omega
      have hcm := up_comp (pr := pr) (s0 := s0) (s1 := s1) hpr (o := o) (L := L') (s3 := .fz (.list (F'.map pD))) (s4 := u4) (s7 := u7) (s9 := u9) hkl
      have hany := anyI_eq ((ksD L').map (coef L'))
      have hkey := dictD_keys L'
      have hbd : dBody (dictD L') = dictD L' ∨ True := .inr trivial
      by_cases hz : ∀ k, coef L' k = 0
      · refine .inl ⟨F', .fz (.list (F'.map pD)), ⟨hi'.uF, fun k => by rw [hi'.eq, hz]; omega⟩, .inl rfl, ?_⟩
        have hv : (((ksD L').map (coef L')).any fun i => i != 0) = false := by
          rw [List.any_eq_false]
          intro x hx
          obtain ⟨k, _, rfl⟩ := List.mem_map.mp hx
          rw [hz k]
          decide
        rw [hv] at hany
        have at1 : ∀ x : D, L2.atI [PyData.none, x] 1 = some x := fun x => rfl
        unfold rowU at e
        rw [List.map_nil] at e
        clear hi' hi hz hv h ho ht ha ha2 hk
        generalize ((ksD L').map (coef L')).map PyData.int = Z1 at *
        generalize (ksD L').map PyData.int = Z2 at *
        generalize F'.map pD = Z5 at *
        generalize dictD L' = Z11 at *
        generalize dictD A = Z10 at *
        generalize A.map pD = Z7 at *
        generalize O.map pD = Z8 at *
        generalize hB : exSs c_law_upward pr 100000 b_law_upward_2 = BD at *
        unfold f_law_upward b_law_upward
        rcases hKs with ⟨rfl, rfl, rfl, rfl, rfl⟩ | ⟨rfl, rfl, rfl, rfl, rfl⟩ <;> rcases g8 with rfl | ⟨_, rfl⟩ <;> simp [p_rd, p_cpo, p_cap, p_st, p_ret, p_arg, p_pk, p_bk, p_lo, p_lk, p_ul, rds, argsOf, setSl, lenOk, exS, exSs, evE, evSs, evCs, evAs, evTs, evI, protOf, outsOf, runF, fnB, Arg.sl, setAt, clCons, clNil, kdIs, isDict, k_bind, k_bindX, k_lift, k_stl1, k_stl2, k_stl3, k_cpo1, k_cpo2, k_rd1, k_rd2, k_bool, k_int, k_lit, k_add, k_sub, k_mul, k_mod, k_fdiv, k_pow, k_catL, k_catT, k_lt, k_le, k_gt, k_ge, k_eqI, k_neI, k_eqB, k_eq, k_ne, k_idxL, k_idxT, k_at, k_at0, k_at1, k_ix, k_lenL, k_lenT, k_abs, k_min, k_max, k_toL, k_toLT, k_toT, k_toTT, k_toI, k_toIB, k_sum, k_all, k_any, k_rng1, k_rng2, k_st1, k_st2, k_ret1, k_ret2, k_arg1, k_arg2, k_pk0, k_pk1, k_pk2, k_bk0, k_bk1, k_bk2, k_nd0, k_nd1, k_unl, k_lk0, k_ul0, k_lo1, k_sqL, k_sqT, k_app, k_clear, k_popAt, k_setD, k_setD0, k_setD1, dupV, bindT, setSl, td, i1, i2, i3, i4, hpe, hrg, hB, e, hcm, hany, hkey, at1, wipeOk, wipeR, backR, lockR, unlockR]
      · refine .inr ⟨fun ⟨Q, hQ⟩ => ?_, ?_⟩
        · obtain ⟨n1, n2, _⟩ := up_no h ho hi' hQ
          have hsN : a2.1 - t.1 + 1 ≤ a.1 - o.1 + N := by omega
          have hG : tz (Q ++ negL F') = [] := by
            refine Classical.byContradiction fun hne => ?_
            obtain ⟨g, G', hg⟩ := cons_of hne
            have hgm : g ∈ tz (Q ++ negL F') := by rw [hg]; simp
            have h1 := n1 g hgm
            obtain ⟨g1, g2⟩ := tz_mem.mp hgm
            have hqh := qu_high ha2 h.uA ht h.uO hQ
            rw [coef_app, coef_neg, coef_up_none fun x hx e' => by have := hqh x hx; omega, coef_up_none fun x hx e' => by have := hi'.hi x hx; omega] at g1
            exact g2 g1
          exact hz fun k => by
            rw [n2, hG]
            rfl
        · have hv : (((ksD L').map (coef L')).any fun i => i != 0) = true := by
            refine Classical.byContradiction fun hn => hz fun k => ?_
            by_cases hk : k ∈ ksD L'
            · refine Classical.byContradiction fun hne => hn ?_
              rw [List.any_eq_true]
              exact ⟨coef L' k, List.mem_map.mpr ⟨k, hk, rfl⟩, bne_iff_ne.mpr hne⟩
            · exact coef_none hk
          rw [hv] at hany
          have at0 : ∀ x : D, L2.atI [PyData.none, x] 0 = some .none := fun x => rfl
          unfold rowU at e
          rw [List.map_nil] at e
          clear hi' hi hz hv h ho ht ha ha2 hk
          generalize ((ksD L').map (coef L')).map PyData.int = Z1 at *
          generalize (ksD L').map PyData.int = Z2 at *
          generalize F'.map pD = Z5 at *
          generalize dictD L' = Z11 at *
          generalize dictD A = Z10 at *
          generalize A.map pD = Z7 at *
          generalize O.map pD = Z8 at *
          generalize hB : exSs c_law_upward pr 100000 b_law_upward_2 = BD at *
          unfold f_law_upward b_law_upward
          rcases hKs with ⟨rfl, rfl, rfl, rfl, rfl⟩ | ⟨rfl, rfl, rfl, rfl, rfl⟩ <;> rcases g8 with rfl | ⟨_, rfl⟩ <;> simp [p_rd, p_cpo, p_cap, p_st, p_ret, p_arg, p_pk, p_bk, p_lo, p_lk, p_ul, rds, argsOf, setSl, lenOk, exS, exSs, evE, evSs, evCs, evAs, evTs, evI, protOf, outsOf, runF, fnB, Arg.sl, setAt, clCons, clNil, kdIs, isDict, k_bind, k_bindX, k_lift, k_stl1, k_stl2, k_stl3, k_cpo1, k_cpo2, k_rd1, k_rd2, k_bool, k_int, k_lit, k_add, k_sub, k_mul, k_mod, k_fdiv, k_pow, k_catL, k_catT, k_lt, k_le, k_gt, k_ge, k_eqI, k_neI, k_eqB, k_eq, k_ne, k_idxL, k_idxT, k_at, k_at0, k_at1, k_ix, k_lenL, k_lenT, k_abs, k_min, k_max, k_toL, k_toLT, k_toT, k_toTT, k_toI, k_toIB, k_sum, k_all, k_any, k_rng1, k_rng2, k_st1, k_st2, k_ret1, k_ret2, k_arg1, k_arg2, k_pk0, k_pk1, k_pk2, k_bk0, k_bk1, k_bk2, k_nd0, k_nd1, k_unl, k_lk0, k_ul0, k_lo1, k_sqL, k_sqT, k_app, k_clear, k_popAt, k_setD, k_setD0, k_setD1, dupV, bindT, setSl, td, i1, i2, i3, i4, hpe, hrg, hB, e, hcm, hany, hkey, at0, wipeOk, wipeR, backR, lockR, unlockR]
    · refine .inr ⟨hn, ?_⟩
      unfold rowU at e
      rw [List.map_nil] at e
      clear hi hn h ho ht ha ha2 hk
      generalize F'.map pD = Z5 at *
      generalize dictD L' = Z11 at *
      generalize dictD A = Z10 at *
      generalize A.map pD = Z7 at *
      generalize O.map pD = Z8 at *
      generalize hB : exSs c_law_upward pr 100000 b_law_upward_2 = BD at *
      unfold f_law_upward b_law_upward
      rcases hKs with ⟨rfl, rfl, rfl, rfl, rfl⟩ | ⟨rfl, rfl, rfl, rfl, rfl⟩ <;> simp [p_rd, p_cpo, p_cap, p_st, p_ret, p_arg, p_pk, p_bk, p_lo, p_lk, p_ul, rds, argsOf, setSl, lenOk, exS, exSs, evE, evSs, evCs, evAs, evTs, evI, protOf, outsOf, runF, fnB, Arg.sl, setAt, clCons, clNil, kdIs, isDict, k_bind, k_bindX, k_lift, k_stl1, k_stl2, k_stl3, k_cpo1, k_cpo2, k_rd1, k_rd2, k_bool, k_int, k_lit, k_add, k_sub, k_mul, k_mod, k_fdiv, k_pow, k_catL, k_catT, k_lt, k_le, k_gt, k_ge, k_eqI, k_neI, k_eqB, k_eq, k_ne, k_idxL, k_idxT, k_at, k_at0, k_at1, k_ix, k_lenL, k_lenT, k_abs, k_min, k_max, k_toL, k_toLT, k_toT, k_toTT, k_toI, k_toIB, k_sum, k_all, k_any, k_rng1, k_rng2, k_st1, k_st2, k_ret1, k_ret2, k_arg1, k_arg2, k_pk0, k_pk1, k_pk2, k_bk0, k_bk1, k_bk2, k_nd0, k_nd1, k_unl, k_lk0, k_ul0, k_lo1, k_sqL, k_sqT, k_app, k_clear, k_popAt, k_setD, k_setD0, k_setD1, dupV, bindT, setSl, td, i1, i2, i3, i4, hpe, hrg, hB, e]
/-! ### k61: right -/
theorem qu_uniq {A O P Q : List (Int × Int)} (h : Ok61 A O) (hP : Qu A O P) (hQ : Qu A O Q) : P = Q := by
  have hu := Us.tz (P ++ negL Q)
  have hz : ∀ k, coef (prodL (tz (P ++ negL Q)) O) k = 0 := fun k => by
    rw [coef_prod_sub, ← hP.eq, ← hQ.eq]
    omega
  obtain ⟨O2, t, ht⟩ := snoc_of h.nO
  have hO := h.uO
  rw [ht] at hO
  have hG : tz (P ++ negL Q) = [] := by
    refine Classical.byContradiction fun hne => ?_
    obtain ⟨G', g, hg⟩ := snoc_of hne
    rw [hg] at hu hz
    have := (coef_top (G := G' ++ [g]) (O := O2 ++ [t]) hu.last hO.last).2
    rw [hu.cl, hO.cl, ← ht, hz] at this
    exact Int.mul_ne_zero (hu.nz g (by simp)) (hO.nz t (by simp)) this.symm
  refine hP.us.ext hQ.us fun k => ?_
  have := coef_tz (P ++ negL Q) k
  rw [hG, coef_app, coef_neg] at this
  have h0 : coef [] k = 0 := rfl
  omega
theorem said_v {A O Q : List (Int × Int)} (e : f_parted [.fz (.list (A.map pD)), .fz (.list (O.map pD))] = some (.val (.ow (.list (Q.map pD))), [.fz (.list (A.map pD)), .fz (.list (O.map pD))])) :
    f_law_said [.fz (.list (A.map pD)), .fz (.list (O.map pD))] = some (.val (.ow (.list (Q.map pD))), [.fz (.list (A.map pD)), .fz (.list (O.map pD))]) := by
  unfold f_law_said
  refine fnT_val ?_
  generalize A.map pD = Z1 at *
  generalize O.map pD = Z2 at *
  generalize Q.map pD = Z3 at *
  unfold b_law_said c_law_said
  simp [p_rd, p_cpo, p_cap, p_st, p_ret, p_arg, p_pk, p_bk, p_lo, p_lk, p_ul, rds, argsOf, setSl, lenOk, exS, exSs, evE, evSs, evCs, evAs, evTs, evI, protOf, outsOf, runF, fnB, Arg.sl, setAt, clCons, clNil, kdIs, isDict, k_bind, k_bindX, k_lift, k_stl1, k_stl2, k_stl3, k_cpo1, k_cpo2, k_rd1, k_rd2, k_bool, k_int, k_lit, k_add, k_sub, k_mul, k_mod, k_fdiv, k_pow, k_catL, k_catT, k_lt, k_le, k_gt, k_ge, k_eqI, k_neI, k_eqB, k_eq, k_ne, k_idxL, k_idxT, k_at, k_at0, k_at1, k_ix, k_lenL, k_lenT, k_abs, k_min, k_max, k_toL, k_toLT, k_toT, k_toTT, k_toI, k_toIB, k_sum, k_all, k_any, k_rng1, k_rng2, k_st1, k_st2, k_ret1, k_ret2, k_arg1, k_arg2, k_pk0, k_pk1, k_pk2, k_bk0, k_bk1, k_bk2, k_nd0, k_nd1, k_unl, k_lk0, k_ul0, k_lo1, k_sqL, k_sqT, k_app, k_clear, k_popAt, k_setD, k_setD0, k_setD1, dupV, e]
theorem said_x {A O : List (Int × Int)} (e : f_parted [.fz (.list (A.map pD)), .fz (.list (O.map pD))] = some (.ex "NoPart", [.fz (.list (A.map pD)), .fz (.list (O.map pD))])) :
    f_law_said [.fz (.list (A.map pD)), .fz (.list (O.map pD))] = some (.val (.fz (.int 3)), [.fz (.list (A.map pD)), .fz (.list (O.map pD))]) := by
  unfold f_law_said
  refine fnT_ex (c := "NoPart") ?_ rfl
  generalize A.map pD = Z1 at *
  generalize O.map pD = Z2 at *
  unfold b_law_said c_law_said
  simp [p_rd, p_cpo, p_cap, p_st, p_ret, p_arg, p_pk, p_bk, p_lo, p_lk, p_ul, rds, argsOf, setSl, lenOk, exS, exSs, evE, evSs, evCs, evAs, evTs, evI, protOf, outsOf, runF, fnB, Arg.sl, setAt, clCons, clNil, kdIs, isDict, k_bind, k_bindX, k_lift, k_stl1, k_stl2, k_stl3, k_cpo1, k_cpo2, k_rd1, k_rd2, k_bool, k_int, k_lit, k_add, k_sub, k_mul, k_mod, k_fdiv, k_pow, k_catL, k_catT, k_lt, k_le, k_gt, k_ge, k_eqI, k_neI, k_eqB, k_eq, k_ne, k_idxL, k_idxT, k_at, k_at0, k_at1, k_ix, k_lenL, k_lenT, k_abs, k_min, k_max, k_toL, k_toLT, k_toT, k_toTT, k_toI, k_toIB, k_sum, k_all, k_any, k_rng1, k_rng2, k_st1, k_st2, k_ret1, k_ret2, k_arg1, k_arg2, k_pk0, k_pk1, k_pk2, k_bk0, k_bk1, k_bk2, k_nd0, k_nd1, k_unl, k_lk0, k_ul0, k_lo1, k_sqL, k_sqT, k_app, k_clear, k_popAt, k_setD, k_setD0, k_setD1, dupV, e]
theorem two_ne (A O : List (Int × Int)) : cmpop .ne (.list [.list (A.map pD), .list (O.map pD)]) (.list [.list (A.map pD), .list (O.map pD)]) = some false := by
  have hS : shapedD (.list [.list (A.map pD), .list (O.map pD)]) = true := (shp_list (k := 2) fun x hx => by
    simp only [List.mem_cons, List.not_mem_nil, or_false] at hx
    rcases hx with rfl | rfl
    · exact shp_list (pL_shp A)
    · exact shp_list (pL_shp O)).sh (by decide)
  have hI : isI (.list [.list (A.map pD), .list (O.map pD)]) = true := by
    have h1 := pL_isI A
    have h2 := pL_isI O
    simp [isI, isIs, h1, h2]
  rw [k_ne hS hS, eqv_self _ hI]
  rfl
def Sl01 (A O : List (Int × Int)) (pr : List Nat) (s0 s1 : Sl) : Prop := (s0 = .fz (.list (A.map pD)) ∧ s1 = .fz (.list (O.map pD)) ∧ (pr = [] ∨ pr = [0, 1])) ∨ (pr = [0, 1] ∧ s0 = .ow (.list (A.map pD)) ∧ s1 = .ow (.list (O.map pD)))
def Any5 (s : Sl) : Prop := s = .un ∨ (∃ d, s = .fz d) ∨ ∃ d, s = .ow d
theorem right_turn_v {A O Q : List (Int × Int)} {pr : List Nat} {s0 s1 s2 s4 s5 : Sl} (h : Ok61 A O) (hQ : Qu A O Q) (hl : Q.length ≤ 401) (hb : ∀ w ∈ Q, w.2.natAbs < 2 ^ 16100)
    (e : f_parted [.fz (.list (A.map pD)), .fz (.list (O.map pD))] = some (.val (.ow (.list (Q.map pD))), [.fz (.list (A.map pD)), .fz (.list (O.map pD))])) (hk : Sl01 A O pr s0 s1) (q2 : s2 = .fz (.list (Q.map pD)) ∨ s2 = .ow (.list (Q.map pD))) (q5 : Any5 s5) :
    ∃ s5', exSs c_law_right pr 100000 b_law_right_1 [s0, s1, s2, .ow (.list [.list (A.map pD), .list (O.map pD)]), s4, s5] = .ok .nx [.fz (.list (A.map pD)), .fz (.list (O.map pD)), s2, .ow (.list [.list (A.map pD), .list (O.map pD)]), s4, s5'] ∧ Any5 s5' := by
  have e1 := said_v e
  have e2 := two_ne A O
  have e3 := issum_eq (S := Q) hQ.us.nz hQ.us.up (by omega)
  have e4 := pL_nself Q
  have e5 := times_oo (A := Q) (B := O) (fun z hz w hw => mulOk_lt 16100 12 (hb z hz) (h.bO w hw).2 (by omega)) (by have := h.lO; omega) (by
    have := Nat.mul_le_mul hl h.lO
    omega)
  have e6 := pL_nself A
  have htz : tz (prodL Q O) = A := (Us.tz _).ext h.uA fun k => by rw [coef_tz, hQ.eq]
  rw [htz] at e5
  have e7 : muop .append (.list (Q.map pD)) [.tuple [.int 99, .int 1]] = some (.none, .list (Q.map pD ++ [.tuple [.int 99, .int 1]])) := k_app (decide_eq_true (by rw [List.length_map]; omega))
  have isn : ∀ X : List D, cmpop .isN (.list X) .none = some false := fun X => rfl
  have c1 : c_law_right "_law_said" = some f_law_said := rfl
  have c2 : c_law_right "_law_is_sum" = some f_law_is_sum := rfl
  have c3 : c_law_right "times" = some f_times := rfl
  clear h hQ htz e hb
  refine ⟨.ow (.list (Q.map pD ++ [.tuple [.int 99, .int 1]])), ?_, .inr (.inr ⟨_, rfl⟩)⟩
  unfold Sl01 at hk
  generalize Q.map pD ++ [.tuple [.int 99, .int 1]] = Z4 at *
  generalize A.map pD = Z1 at *
  generalize O.map pD = Z2 at *
  generalize Q.map pD = Z3 at *
  unfold b_law_right_1
  rcases hk with ⟨rfl, rfl, rfl | rfl⟩ | ⟨rfl, rfl, rfl⟩ <;> rcases q2 with rfl | rfl <;> rcases q5 with rfl | ⟨_, rfl⟩ | ⟨_, rfl⟩ <;> simp [p_rd, p_cpo, p_cap, p_st, p_ret, p_arg, p_pk, p_bk, p_lo, p_lk, p_ul, rds, argsOf, setSl, lenOk, exS, exSs, evE, evSs, evCs, evAs, evTs, evI, protOf, outsOf, runF, fnB, Arg.sl, setAt, clCons, clNil, kdIs, isDict, k_bind, k_bindX, k_lift, k_stl1, k_stl2, k_stl3, k_cpo1, k_cpo2, k_rd1, k_rd2, k_bool, k_int, k_lit, k_add, k_sub, k_mul, k_mod, k_fdiv, k_pow, k_catL, k_catT, k_lt, k_le, k_gt, k_ge, k_eqI, k_neI, k_eqB, k_eq, k_ne, k_idxL, k_idxT, k_at, k_at0, k_at1, k_ix, k_lenL, k_lenT, k_abs, k_min, k_max, k_toL, k_toLT, k_toT, k_toTT, k_toI, k_toIB, k_sum, k_all, k_any, k_rng1, k_rng2, k_st1, k_st2, k_ret1, k_ret2, k_arg1, k_arg2, k_pk0, k_pk1, k_pk2, k_bk0, k_bk1, k_bk2, k_nd0, k_nd1, k_unl, k_lk0, k_ul0, k_lo1, k_sqL, k_sqT, k_app, k_clear, k_popAt, k_setD, k_setD0, k_setD1, dupV, c1, c2, c3, e1, e2, e3, e4, e5, e6, e7, isn]
theorem right_turn_x {A O : List (Int × Int)} {pr : List Nat} {s0 s1 s4 s5 : Sl}
    (e : f_parted [.fz (.list (A.map pD)), .fz (.list (O.map pD))] = some (.ex "NoPart", [.fz (.list (A.map pD)), .fz (.list (O.map pD))])) (hk : Sl01 A O pr s0 s1) (q5 : Any5 s5) :
    ∃ s5', exSs c_law_right pr 100000 b_law_right_1 [s0, s1, .fz .none, .ow (.list [.list (A.map pD), .list (O.map pD)]), s4, s5] = .ok .nx [.fz (.list (A.map pD)), .fz (.list (O.map pD)), .fz .none, .ow (.list [.list (A.map pD), .list (O.map pD)]), s4, s5'] ∧ Any5 s5' := by
  have e1 := said_x e
  have e2 := two_ne A O
  have isn : cmpop .isN .none .none = some true := rfl
  have c1 : c_law_right "_law_said" = some f_law_said := rfl
  clear e
  refine ⟨.fz (.int 3), ?_, .inr (.inl ⟨_, rfl⟩)⟩
  unfold Sl01 at hk
  generalize A.map pD = Z1 at *
  generalize O.map pD = Z2 at *
  unfold b_law_right_1
  rcases hk with ⟨rfl, rfl, rfl | rfl⟩ | ⟨rfl, rfl, rfl⟩ <;> rcases q5 with rfl | ⟨_, rfl⟩ | ⟨_, rfl⟩ <;> simp [p_rd, p_cpo, p_cap, p_st, p_ret, p_arg, p_pk, p_bk, p_lo, p_lk, p_ul, rds, argsOf, setSl, lenOk, exS, exSs, evE, evSs, evCs, evAs, evTs, evI, protOf, outsOf, runF, fnB, Arg.sl, setAt, clCons, clNil, kdIs, isDict, k_bind, k_bindX, k_lift, k_stl1, k_stl2, k_stl3, k_cpo1, k_cpo2, k_rd1, k_rd2, k_bool, k_int, k_lit, k_add, k_sub, k_mul, k_mod, k_fdiv, k_pow, k_catL, k_catT, k_lt, k_le, k_gt, k_ge, k_eqI, k_neI, k_eqB, k_eq, k_ne, k_idxL, k_idxT, k_at, k_at0, k_at1, k_ix, k_lenL, k_lenT, k_abs, k_min, k_max, k_toL, k_toLT, k_toT, k_toTT, k_toI, k_toIB, k_sum, k_all, k_any, k_rng1, k_rng2, k_st1, k_st2, k_ret1, k_ret2, k_arg1, k_arg2, k_pk0, k_pk1, k_pk2, k_bk0, k_bk1, k_bk2, k_nd0, k_nd1, k_unl, k_lk0, k_ul0, k_lo1, k_sqL, k_sqT, k_app, k_clear, k_popAt, k_setD, k_setD0, k_setD1, dupV, c1, e1, e2, isn]
theorem right_eq {A O : List (Int × Int)} {xa ya : Rk.Arg} (hK : KA61 A O xa ya) (h : Ok61 A O) : f_law_right [xa, ya] = some (.val (.fz (.bool true)), [.fz (.list (A.map pD)), .fz (.list (O.map pD))]) := by
  have core : ∃ x, f_law_upward [xa, ya] = some (.val x, [xa, ya]) ∧ ∀ (pr : List Nat) (s0 s1 s4 s5 : Sl), Sl01 A O pr s0 s1 → Any5 s5 → ∃ s5', exSs c_law_right pr 100000 b_law_right_1 [s0, s1, x.sl, .ow (.list [.list (A.map pD), .list (O.map pD)]), s4, s5] = .ok .nx [.fz (.list (A.map pD)), .fz (.list (O.map pD)), x.sl, .ow (.list [.list (A.map pD), .list (O.map pD)]), s4, s5'] ∧ Any5 s5' := by
    rcases up61 hK h with ⟨Q, x, hQ, hx, e⟩ | ⟨hn, e⟩
    · rcases parted61 h with ⟨P, hP, hl, hb, e2⟩ | ⟨hn, _⟩
      · have hPQ := qu_uniq h hP hQ
        subst hPQ
        refine ⟨x, e, fun pr s0 s1 s4 s5 hk q5 => right_turn_v h hP hl hb e2 hk ?_ q5⟩
        rcases hx with rfl | rfl
        · exact .inl rfl
        · exact .inr rfl
      · exact absurd ⟨Q, hQ⟩ hn
    · rcases parted61 h with ⟨P, hP, _⟩ | ⟨_, e2⟩
      · exact absurd ⟨P, hP⟩ hn
      · exact ⟨_, e, fun pr s0 s1 s4 s5 hk q5 => right_turn_x e2 hk q5⟩
  obtain ⟨x, e, step⟩ := core
  have c1 : c_law_right "_law_upward" = some f_law_upward := rfl
  have hrg : itemsRng [.int (2 : Int)] = some [.int 0, .int 1] := rfl
  have loop : ∀ (pr : List Nat) (s0 s1 : Sl), Sl01 A O pr s0 s1 → ∃ s5', forL pr (.nm 4) (exSs c_law_right pr 100000 b_law_right_1) [.int 0, .int 1] [s0, s1, x.sl, .ow (.list [.list (A.map pD), .list (O.map pD)]), .un, .un] = .ok .nx [.fz (.list (A.map pD)), .fz (.list (O.map pD)), x.sl, .ow (.list [.list (A.map pD), .list (O.map pD)]), .fz (.int 1), s5'] := fun pr s0 s1 hk => by
    have hpr : pr = [] ∨ pr = [0, 1] := by
      rcases hk with ⟨_, _, g⟩ | ⟨g, _⟩
      · exact g
      · exact .inr g
    obtain ⟨u5, e1, q5⟩ := step pr s0 s1 (.fz (.int 0)) .un hk (.inl rfl)
    obtain ⟨v5, e2, _⟩ := step pr _ _ (.fz (.int 1)) u5 (.inl ⟨rfl, rfl, hpr⟩) q5
    refine ⟨v5, ?_⟩
    have b1 : bindT pr (.nm 4) (.int 0) [s0, s1, x.sl, .ow (.list [.list (A.map pD), .list (O.map pD)]), .un, .un] = some [s0, s1, x.sl, .ow (.list [.list (A.map pD), .list (O.map pD)]), .fz (.int 0), .un] := by
      rcases hpr with rfl | rfl <;> simp [bindT, setSl]
    have b2 : bindT pr (.nm 4) (.int 1) [.fz (.list (A.map pD)), .fz (.list (O.map pD)), x.sl, .ow (.list [.list (A.map pD), .list (O.map pD)]), .fz (.int 0), u5] = some [.fz (.list (A.map pD)), .fz (.list (O.map pD)), x.sl, .ow (.list [.list (A.map pD), .list (O.map pD)]), .fz (.int 1), u5] := by
      rcases hpr with rfl | rfl <;> simp [bindT, setSl]
    simp only [forL, b1, e1, b2, e2]
  rcases hK with ⟨rfl, rfl⟩ | ⟨rfl, rfl⟩
  · obtain ⟨s5, el⟩ := loop [] _ _ (.inl ⟨rfl, rfl, .inl rfl⟩)
    clear step loop
    generalize A.map pD = Z1 at *
    generalize O.map pD = Z2 at *
    generalize hB : exSs c_law_right [] 100000 b_law_right_1 = BD at *
    unfold f_law_right b_law_right
    cases x <;> simp only [Arg.sl] at el <;> simp [p_rd, p_cpo, p_cap, p_st, p_ret, p_arg, p_pk, p_bk, p_lo, p_lk, p_ul, rds, argsOf, setSl, lenOk, exS, exSs, evE, evSs, evCs, evAs, evTs, evI, protOf, outsOf, runF, fnB, Arg.sl, setAt, clCons, clNil, kdIs, isDict, k_bind, k_bindX, k_lift, k_stl1, k_stl2, k_stl3, k_cpo1, k_cpo2, k_rd1, k_rd2, k_bool, k_int, k_lit, k_add, k_sub, k_mul, k_mod, k_fdiv, k_pow, k_catL, k_catT, k_lt, k_le, k_gt, k_ge, k_eqI, k_neI, k_eqB, k_eq, k_ne, k_idxL, k_idxT, k_at, k_at0, k_at1, k_ix, k_lenL, k_lenT, k_abs, k_min, k_max, k_toL, k_toLT, k_toT, k_toTT, k_toI, k_toIB, k_sum, k_all, k_any, k_rng1, k_rng2, k_st1, k_st2, k_ret1, k_ret2, k_arg1, k_arg2, k_pk0, k_pk1, k_pk2, k_bk0, k_bk1, k_bk2, k_nd0, k_nd1, k_unl, k_lk0, k_ul0, k_lo1, k_sqL, k_sqT, k_app, k_clear, k_popAt, k_setD, k_setD0, k_setD1, dupV, nodupB, bindT, setSl, c1, e, hB, hrg, el]
  · obtain ⟨s5, el⟩ := loop [0, 1] _ _ (.inr ⟨rfl, rfl, rfl⟩)
    clear step loop
    generalize A.map pD = Z1 at *
    generalize O.map pD = Z2 at *
    generalize hB : exSs c_law_right [0, 1] 100000 b_law_right_1 = BD at *
    unfold f_law_right b_law_right
    cases x <;> simp only [Arg.sl] at el <;> simp [p_rd, p_cpo, p_cap, p_st, p_ret, p_arg, p_pk, p_bk, p_lo, p_lk, p_ul, rds, argsOf, setSl, lenOk, exS, exSs, evE, evSs, evCs, evAs, evTs, evI, protOf, outsOf, runF, fnB, Arg.sl, setAt, clCons, clNil, kdIs, isDict, k_bind, k_bindX, k_lift, k_stl1, k_stl2, k_stl3, k_cpo1, k_cpo2, k_rd1, k_rd2, k_bool, k_int, k_lit, k_add, k_sub, k_mul, k_mod, k_fdiv, k_pow, k_catL, k_catT, k_lt, k_le, k_gt, k_ge, k_eqI, k_neI, k_eqB, k_eq, k_ne, k_idxL, k_idxT, k_at, k_at0, k_at1, k_ix, k_lenL, k_lenT, k_abs, k_min, k_max, k_toL, k_toLT, k_toT, k_toTT, k_toI, k_toIB, k_sum, k_all, k_any, k_rng1, k_rng2, k_st1, k_st2, k_ret1, k_ret2, k_arg1, k_arg2, k_pk0, k_pk1, k_pk2, k_bk0, k_bk1, k_bk2, k_nd0, k_nd1, k_unl, k_lk0, k_ul0, k_lo1, k_sqL, k_sqT, k_app, k_clear, k_popAt, k_setD, k_setD0, k_setD1, dupV, nodupB, bindT, setSl, c1, e, hB, hrg, el]
/-! ### k61: what the law draws -/
theorem bg_up {k j : Nat} {b : D} (h : Bg k b) (hj : k ≤ j) : Bg j b := by
  obtain ⟨m, f, rfl, m0, m1, f0, f1, f2⟩ := h
  exact ⟨m, f, rfl, m0, m1, f0, by omega, f2⟩
theorem sgn_at {u : Int} (h0 : 0 ≤ u) (h1 : u < 2) : ∃ v : Int, L2.atI [PyData.int 1, .int (-1)] u = some (.int v) ∧ (v = 1 ∨ v = -1) := by
  have : u = 0 ∨ u = 1 := by omega
  rcases this with rfl | rfl
  · exact ⟨1, rfl, .inl rfl⟩
  · exact ⟨-1, rfl, .inr rfl⟩
theorem Bd.mono {W a W' a' : Nat} {S : List (Int × Int)} (h : Bd W a S) (h1 : W ≤ W') (h2 : a ≤ a') : Bd W' a' S := fun z hz => by
  obtain ⟨⟨b1, b2⟩, b3⟩ := h z hz
  exact ⟨⟨by omega, by omega⟩, Nat.lt_of_lt_of_le b3 (Nat.pow_le_pow_right (by decide) h2)⟩
theorem some_eq {K l : Nat} {b : D} (hb : Bg K b) (hK : K ≤ 10000) (hl : l ≤ 1) : ∃ (L : List (Int × Int)) (b' : D), f_law_some [.ow b, .fz (.int l)] = some (.val (.ow (.list (L.map pD))), [.ow b', .fz (.int l)]) ∧ Us L ∧ Bd 30 8 L ∧ L.length ≤ 5 ∧ (l = 1 → L ≠ []) ∧ Bg (K + 20) b' := by
  obtain ⟨w, b1, e1, w0, w1, B1⟩ := take_eq (many := 2) hb (by omega) (by decide) (by decide)
  obtain ⟨c', b2, e2, c0, c1, B2⟩ := take_eq (many := 5 - (l : Int)) B1 (by omega) (by omega) (by omega)
  obtain ⟨c, hc⟩ : ∃ c : Nat, (l : Int) + c' = c := ⟨((l : Int) + c').toNat, by omega⟩
  have hw : w = 0 ∨ w = 1 := by omega
  obtain ⟨p, q, hp, hq, p0, pq1, pq2⟩ : ∃ p q : Int, L2.atI [PyData.int 7, .int 61] w = some (.int p) ∧ L2.atI [PyData.int 3, .int 30] w = some (.int q) ∧ 0 < p ∧ q ≤ 30 ∧ p - q ≤ 31 := by
    rcases hw with rfl | rfl
    · exact ⟨7, 3, rfl, rfl, by decide, by decide, by decide⟩
    · exact ⟨61, 30, rfl, rfl, by decide, by decide, by decide⟩
  have p61 : p ≤ 61 := by
    rcases hw with rfl | rfl
    · cases hp; decide
    · cases hp; decide
  obtain ⟨r', e, L, b', s4, rfl, hL, hB, hN, q4⟩ := forN (pr := [0]) (tg := .nm 4) (body := exSs c_law_some [0] 100000 b_law_some_1) (ds := natD (List.range c)) (r := [.ow b2, .fz (.int l), .fz (.int w), .ow (.list []), .un])
    (fun i r => ∃ (L : List (Int × Int)) (b' : D) (s4 : Sl), r = [.ow b', .fz (.int l), .fz (.int w), .ow (.list (L.map pD)), s4] ∧ L.length = i ∧ Bg (K + 2 + 2 * i) b' ∧ Bd 30 4 L ∧ Fzu s4) ⟨[], b2, .un, rfl, rfl, B2, fun z hz => absurd hz (by simp), .inl rfl⟩ (fun i d r hd ⟨L, b', s4, hr, hL, hB, hN, q4⟩ => by
      subst hr
      have hi : i < c := by
        have := (List.getElem?_eq_some_iff.mp hd).1
        rw [natD_len, List.length_range] at this
        exact this
      rw [natD_at (by rw [List.length_range]; exact hi), List.getElem_range] at hd
      cases hd
      obtain ⟨x, b4, e4, x0, x1, B4⟩ := take_eq (many := p) hB (by omega) p0 (by omega)
      obtain ⟨y, b5, e5, y0, y1, B5⟩ := take_eq (many := 9) B4 (by omega) (by decide) (by decide)
      obtain ⟨v, hv, hv1⟩ := sgn_at (u := (i : Int) % 2) (by omega) (by omega)
      have hml : mulOk v (1 + y) = true := mulOk_lt 5 40 (by omega) (by omega) (by decide)
      have happ : muop .append (.list (L.map pD)) [.tuple [.int (x - q), .int (v * (1 + y))]] = some (.none, .list ((L ++ [(x - q, v * (1 + y))]).map pD)) := by
        rw [k_app (decide_eq_true (by rw [List.length_map]; omega)), List.map_append]
        rfl
      refine ⟨[.ow b', .fz (.int l), .fz (.int w), .ow (.list (L.map pD)), .fz (.int i)], ?_, [.ow b5, .fz (.int l), .fz (.int w), .ow (.list ((L ++ [(x - q, v * (1 + y))]).map pD)), .fz (.int i)], ?_, L ++ [(x - q, v * (1 + y))], b5, _, rfl, by rw [List.length_append, hL]; rfl, ?_, fun z hz => ?_, .inr ⟨_, rfl⟩⟩
      · rcases q4 with rfl | ⟨d, rfl⟩ <;> simp [bindT, setSl]
      · have hmod : binop .mod (.int (i : Int)) (.int 2) = some (.fz (.int ((i : Int) % 2))) := k_mod (by decide)
        have c1 : c_law_some "_law_take" = some f_law_take := rfl
        generalize L.map pD = P at *
        generalize (L ++ [(x - q, v * (1 + y))]).map pD = P2 at *
        generalize (i : Int) % 2 = im at *
        unfold b_law_some_1
        simp [p_rd, p_cpo, p_cap, p_st, p_ret, p_arg, p_pk, p_bk, p_lo, p_lk, p_ul, rds, argsOf, setSl, lenOk, exS, exSs, evE, evSs, evCs, evAs, evTs, evI, protOf, outsOf, runF, fnB, Arg.sl, setAt, clCons, clNil, kdIs, isDict, k_bind, k_bindX, k_lift, k_stl1, k_stl2, k_stl3, k_cpo1, k_cpo2, k_rd1, k_rd2, k_bool, k_int, k_lit, k_add, k_sub, k_mul, k_mod, k_fdiv, k_pow, k_catL, k_catT, k_lt, k_le, k_gt, k_ge, k_eqI, k_neI, k_eqB, k_eq, k_ne, k_idxL, k_idxT, k_at, k_at0, k_at1, k_ix, k_lenL, k_lenT, k_abs, k_min, k_max, k_toL, k_toLT, k_toT, k_toTT, k_toI, k_toIB, k_sum, k_all, k_any, k_rng1, k_rng2, k_st1, k_st2, k_ret1, k_ret2, k_arg1, k_arg2, k_pk0, k_pk1, k_pk2, k_bk0, k_bk1, k_bk2, k_nd0, k_nd1, k_unl, k_lk0, k_ul0, k_lo1, k_sqL, k_sqT, k_app, k_clear, k_popAt, k_setD, k_setD0, k_setD1, dupV, c1, e4, e5, hp, hq, hmod, hml, hv, happ]
      · rw [show K + 2 + 2 * (i + 1) = K + 2 + 2 * i + 1 + 1 by omega]
        exact B5
      · rcases List.mem_append.mp hz with hz | hz
        · exact hN z hz
        · rw [List.mem_singleton] at hz
          subst hz
          refine ⟨⟨by show -((30 : Nat) : Int) ≤ x - q; omega, by show x - q ≤ ((30 : Nat) : Int); omega⟩, ?_⟩
          show (v * (1 + y)).natAbs < 2 ^ 4
          rcases hv1 with rfl | rfl <;> omega)
  rw [natD_len, List.length_range] at hL hB
  have htd := tidy_eq (L := L) (by omega)
  rw [← summed_same] at htd
  have hrg : rngD 0 c = natD (List.range c) := rngD_nat c
  have hcb : -100000 ≤ (c : Int) ∧ (c : Int) ≤ 100000 := by omega
  have hpe : cmpop .eq (.list ((tz L).map pD)) (.list []) = some (decide (tz L = [])) := by
    rw [k_eq (pL_sh _) rfl]
    cases tz L with
    | nil => rfl
    | cons z A => rfl
  have c1' : c_law_some "_law_take" = some f_law_take := rfl
  have c2' : c_law_some "_law_summed" = some f_law_summed := rfl
  have hbd : Bd 30 8 (tz L) := (tz_bd (c := 3) hN (by omega)).mono (Nat.le_refl _) (by decide)
  by_cases hz : tz L = [] ∧ l = 1
  · refine ⟨[(2, -1)], b', ?_, ⟨List.pairwise_singleton _ _, fun z hz => by rw [List.mem_singleton.mp hz]; decide⟩, fun z hz => by rw [List.mem_singleton.mp hz]; decide, by decide, fun _ => by simp, bg_up hB (by omega)⟩
    obtain ⟨hz1, hz2⟩ := hz
    rw [decide_eq_true hz1] at hpe
    subst hz2
    generalize (tz L).map pD = T at *
    generalize L.map pD = P at *
    generalize natD (List.range c) = rg at *
    generalize hB1 : exSs c_law_some [0] 100000 b_law_some_1 = BD at *
    unfold f_law_some b_law_some
    simp at e e1 e2 hc
    simp [p_rd, p_cpo, p_cap, p_st, p_ret, p_arg, p_pk, p_bk, p_lo, p_lk, p_ul, rds, argsOf, setSl, lenOk, exS, exSs, evE, evSs, evCs, evAs, evTs, evI, protOf, outsOf, runF, fnB, Arg.sl, setAt, clCons, clNil, kdIs, isDict, k_bind, k_bindX, k_lift, k_stl1, k_stl2, k_stl3, k_cpo1, k_cpo2, k_rd1, k_rd2, k_bool, k_int, k_lit, k_add, k_sub, k_mul, k_mod, k_fdiv, k_pow, k_catL, k_catT, k_lt, k_le, k_gt, k_ge, k_eqI, k_neI, k_eqB, k_eq, k_ne, k_idxL, k_idxT, k_at, k_at0, k_at1, k_ix, k_lenL, k_lenT, k_abs, k_min, k_max, k_toL, k_toLT, k_toT, k_toTT, k_toI, k_toIB, k_sum, k_all, k_any, k_rng1, k_rng2, k_st1, k_st2, k_ret1, k_ret2, k_arg1, k_arg2, k_pk0, k_pk1, k_pk2, k_bk0, k_bk1, k_bk2, k_nd0, k_nd1, k_unl, k_lk0, k_ul0, k_lo1, k_sqL, k_sqT, k_app, k_clear, k_popAt, k_setD, k_setD0, k_setD1, dupV, c1', c2', e1, e2, hc, hcb, hrg, hB1, e, htd, hpe, pD]
  · refine ⟨tz L, b', ?_, Us.tz L, hbd, Nat.le_trans (tz_len L) (by omega), fun hl1 hz1 => hz ⟨hz1, hl1⟩, bg_up hB (by omega)⟩
    generalize hv : decide (tz L = []) = v at *
    have hv2 : v = true → l = 0 := fun h => by
      subst h
      have := of_decide_eq_true hv
      refine Classical.byContradiction fun hn => hz ⟨this, by omega⟩
    generalize (tz L).map pD = T at *
    generalize L.map pD = P at *
    generalize natD (List.range c) = rg at *
    generalize hB1 : exSs c_law_some [0] 100000 b_law_some_1 = BD at *
    unfold f_law_some b_law_some
    cases v with
    | true =>
      have := hv2 rfl
      subst this
      simp at e e1 e2 hc
      simp [p_rd, p_cpo, p_cap, p_st, p_ret, p_arg, p_pk, p_bk, p_lo, p_lk, p_ul, rds, argsOf, setSl, lenOk, exS, exSs, evE, evSs, evCs, evAs, evTs, evI, protOf, outsOf, runF, fnB, Arg.sl, setAt, clCons, clNil, kdIs, isDict, k_bind, k_bindX, k_lift, k_stl1, k_stl2, k_stl3, k_cpo1, k_cpo2, k_rd1, k_rd2, k_bool, k_int, k_lit, k_add, k_sub, k_mul, k_mod, k_fdiv, k_pow, k_catL, k_catT, k_lt, k_le, k_gt, k_ge, k_eqI, k_neI, k_eqB, k_eq, k_ne, k_idxL, k_idxT, k_at, k_at0, k_at1, k_ix, k_lenL, k_lenT, k_abs, k_min, k_max, k_toL, k_toLT, k_toT, k_toTT, k_toI, k_toIB, k_sum, k_all, k_any, k_rng1, k_rng2, k_st1, k_st2, k_ret1, k_ret2, k_arg1, k_arg2, k_pk0, k_pk1, k_pk2, k_bk0, k_bk1, k_bk2, k_nd0, k_nd1, k_unl, k_lk0, k_ul0, k_lo1, k_sqL, k_sqT, k_app, k_clear, k_popAt, k_setD, k_setD0, k_setD1, dupV, c1', c2', e1, e2, hc, hcb, hrg, hB1, e, htd, hpe]
    | false => simp [p_rd, p_cpo, p_cap, p_st, p_ret, p_arg, p_pk, p_bk, p_lo, p_lk, p_ul, rds, argsOf, setSl, lenOk, exS, exSs, evE, evSs, evCs, evAs, evTs, evI, protOf, outsOf, runF, fnB, Arg.sl, setAt, clCons, clNil, kdIs, isDict, k_bind, k_bindX, k_lift, k_stl1, k_stl2, k_stl3, k_cpo1, k_cpo2, k_rd1, k_rd2, k_bool, k_int, k_lit, k_add, k_sub, k_mul, k_mod, k_fdiv, k_pow, k_catL, k_catT, k_lt, k_le, k_gt, k_ge, k_eqI, k_neI, k_eqB, k_eq, k_ne, k_idxL, k_idxT, k_at, k_at0, k_at1, k_ix, k_lenL, k_lenT, k_abs, k_min, k_max, k_toL, k_toLT, k_toT, k_toTT, k_toI, k_toIB, k_sum, k_all, k_any, k_rng1, k_rng2, k_st1, k_st2, k_ret1, k_ret2, k_arg1, k_arg2, k_pk0, k_pk1, k_pk2, k_bk0, k_bk1, k_bk2, k_nd0, k_nd1, k_unl, k_lk0, k_ul0, k_lo1, k_sqL, k_sqT, k_app, k_clear, k_popAt, k_setD, k_setD0, k_setD1, dupV, c1', c2', e1, e2, hc, hcb, hrg, hB1, e, htd, hpe]
theorem long_eq {K : Nat} {b : D} (hb : Bg K b) (hK : K ≤ 10000) : ∃ (A O : List (Int × Int)) (b' : D), f_law_long_row [.ow b] = some (.val (.fz (.tuple [.list (A.map pD), .list (O.map pD)])), [.ow b']) ∧ Ok61 A O ∧ Bg (K + 20) b' := by
  obtain ⟨x, b1, e1, x0, x1, B1⟩ := take_eq (many := 3) hb (by omega) (by decide) (by decide)
  have hdv : 0 < 120 / (1 + x) ∧ 120 / (1 + x) ≤ 120 ∧ (1 + x) * (120 / (1 + x)) ≤ 120 := by
    have : x = 0 ∨ x = 1 ∨ x = 2 := by omega
    rcases this with rfl | rfl | rfl <;> decide
  obtain ⟨y, b2, e2, y0, y1, B2⟩ := take_eq (many := 120 / (1 + x)) B1 (by omega) hdv.1 (by omega)
  have hst : (1 + x) * (1 + y) ≤ 120 := Int.le_trans (Int.mul_le_mul_of_nonneg_left (by omega) (by omega)) hdv.2.2
  have hst0 : 1 ≤ (1 + x) * (1 + y) := by
    have := Int.mul_le_mul_of_nonneg_left (show 1 ≤ 1 + y by omega) (show 0 ≤ 1 + x by omega)
    omega
  obtain ⟨z, b3, e3, z0, z1, B3⟩ := take_eq (many := 121 - (1 + x) * (1 + y)) B2 (by omega) (by omega) (by omega)
  obtain ⟨s, b4, e4, s0, s1, B4⟩ := take_eq (many := 2) B3 (by omega) (by decide) (by decide)
  obtain ⟨u, b5, e5, u0, u1, B5⟩ := take_eq (many := 9) B4 (by omega) (by decide) (by decide)
  obtain ⟨v, b6, e6, v0, v1, B6⟩ := take_eq (many := 9) B5 (by omega) (by decide) (by decide)
  obtain ⟨w, b7, e7, w0, w1, B7⟩ := take_eq (many := 5) B6 (by omega) (by decide) (by decide)
  obtain ⟨g, hg, hg1⟩ := sgn_at s0 s1
  have hby : (g * (1 + u)).natAbs ≤ 9 ∧ g * (1 + u) ≠ 0 := by rcases hg1 with rfl | rfl <;> omega
  have hnb : (g * (1 + u) * (1 + v)).natAbs < 2 ^ 7 ∧ g * (1 + u) * (1 + v) ≠ 0 := by
    refine ⟨?_, Int.mul_ne_zero hby.2 (by omega)⟩
    rw [Int.natAbs_mul]
    have := Nat.mul_le_mul hby.1 (show (1 + v).natAbs ≤ 9 by omega)
    omega
  have m1 : mulOk (1 + x) (1 + y) = true := mulOk_lt 5 10 (by omega) (by omega) (by decide)
  have m2 : mulOk g (1 + u) = true := mulOk_lt 5 10 (by omega) (by omega) (by decide)
  have m3 : mulOk (g * (1 + u)) (1 + v) = true := mulOk_lt 5 10 (by omega) (by omega) (by decide)
  have hd : binop .fdiv (.int 120) (.int (1 + x)) = some (.fz (.int (120 / (1 + x)))) := k_fdiv (divOk_lt (by omega) (by omega))
  refine ⟨[(z - 60, 0 - g * (1 + u) * (1 + v)), (z - 60 + (1 + x) * (1 + y), g * (1 + u) * (1 + v))], [(w - 2, 0 - g * (1 + u)), (w - 2 + (1 + x), g * (1 + u))], b7, ?_, ⟨⟨?_, ?_⟩, ⟨?_, ?_⟩, ?_, ?_, (show 2 ≤ 60 by decide), by simp⟩, bg_up B7 (by omega)⟩
  · have c1 : c_law_long_row "_law_take" = some f_law_take := rfl
    clear hby hnb hst hst0 hdv
    unfold f_law_long_row b_law_long_row
    show _ = some (Out.val (.fz (.tuple [.list [.tuple [.int (z - 60), .int (0 - g * (1 + u) * (1 + v))], .tuple [.int (z - 60 + (1 + x) * (1 + y)), .int (g * (1 + u) * (1 + v))]], .list [.tuple [.int (w - 2), .int (0 - g * (1 + u))], .tuple [.int (w - 2 + (1 + x)), .int (g * (1 + u))]]])), _)
    generalize hgu : g * (1 + u) = gu at *
    generalize hxy : (1 + x) * (1 + y) = xy at *
    generalize hgv : gu * (1 + v) = gv at *
    generalize 120 / (1 + x) = dv at *
    simp [p_rd, p_cpo, p_cap, p_st, p_ret, p_arg, p_pk, p_bk, p_lo, p_lk, p_ul, rds, argsOf, setSl, lenOk, exS, exSs, evE, evSs, evCs, evAs, evTs, evI, protOf, outsOf, runF, fnB, Arg.sl, setAt, clCons, clNil, kdIs, isDict, k_bind, k_bindX, k_lift, k_stl1, k_stl2, k_stl3, k_cpo1, k_cpo2, k_rd1, k_rd2, k_bool, k_int, k_lit, k_add, k_sub, k_mul, k_mod, k_fdiv, k_pow, k_catL, k_catT, k_lt, k_le, k_gt, k_ge, k_eqI, k_neI, k_eqB, k_eq, k_ne, k_idxL, k_idxT, k_at, k_at0, k_at1, k_ix, k_lenL, k_lenT, k_abs, k_min, k_max, k_toL, k_toLT, k_toT, k_toTT, k_toI, k_toIB, k_sum, k_all, k_any, k_rng1, k_rng2, k_st1, k_st2, k_ret1, k_ret2, k_arg1, k_arg2, k_pk0, k_pk1, k_pk2, k_bk0, k_bk1, k_bk2, k_nd0, k_nd1, k_unl, k_lk0, k_ul0, k_lo1, k_sqL, k_sqT, k_app, k_clear, k_popAt, k_setD, k_setD0, k_setD1, dupV, c1, e1, e2, e3, e4, e5, e6, e7, hg, m1, m2, m3, hd, hgu, hxy, hgv]
  · refine List.pairwise_cons.mpr ⟨fun yy hy => ?_, List.pairwise_singleton _ _⟩
    rw [List.mem_singleton.mp hy]
    show z - 60 < z - 60 + (1 + x) * (1 + y)
    omega
  · intro yy hy
    simp only [List.mem_cons, List.not_mem_nil, or_false] at hy
    rcases hy with rfl | rfl
    · show 0 - g * (1 + u) * (1 + v) ≠ 0
      omega
    · exact hnb.2
  · refine List.pairwise_cons.mpr ⟨fun yy hy => ?_, List.pairwise_singleton _ _⟩
    rw [List.mem_singleton.mp hy]
    show w - 2 < w - 2 + (1 + x)
    omega
  · intro yy hy
    simp only [List.mem_cons, List.not_mem_nil, or_false] at hy
    rcases hy with rfl | rfl
    · show 0 - g * (1 + u) ≠ 0
      omega
    · exact hby.2
  · intro y' hy
    simp only [List.mem_cons, List.not_mem_nil, or_false] at hy
    rcases hy with rfl | rfl
    · exact ⟨⟨by show -((200 : Nat) : Int) ≤ z - 60; omega, by show z - 60 ≤ ((200 : Nat) : Int); omega⟩, by show (0 - g * (1 + u) * (1 + v)).natAbs < 2 ^ 40; omega⟩
    · exact ⟨⟨by show -((200 : Nat) : Int) ≤ z - 60 + (1 + x) * (1 + y); omega, by show z - 60 + (1 + x) * (1 + y) ≤ ((200 : Nat) : Int); omega⟩, by show (g * (1 + u) * (1 + v)).natAbs < 2 ^ 40; omega⟩
  · intro y' hy
    simp only [List.mem_cons, List.not_mem_nil, or_false] at hy
    rcases hy with rfl | rfl
    · exact ⟨⟨by show -((100 : Nat) : Int) ≤ w - 2; omega, by show w - 2 ≤ ((100 : Nat) : Int); omega⟩, by show (0 - g * (1 + u)).natAbs < 2 ^ 12; omega⟩
    · exact ⟨⟨by show -((100 : Nat) : Int) ≤ w - 2 + (1 + x); omega, by show w - 2 + (1 + x) ≤ ((100 : Nat) : Int); omega⟩, by show (g * (1 + u)).natAbs < 2 ^ 12; omega⟩
structure Man (L : List (Int × Int)) (i : Nat) (p : Int) : Prop where
  us : Us L
  hi : ∀ z ∈ L, 0 ≤ z.1 ∧ z.1 ≤ p ∧ z.2.natAbs ≤ 9
  pp : p ≤ 3 * (i : Int)
  ln : L.length = i + 1
theorem many_eq {K : Nat} {b : D} (hb : Bg K b) (hK : K ≤ 10000) : ∃ (A O : List (Int × Int)) (b' : D), f_law_many [.ow b] = some (.val (.fz (.tuple [.list (A.map pD), .list (O.map pD)])), [.ow b']) ∧ Ok61 A O ∧ Bg (K + 100) b' := by
  obtain ⟨x, b1, e1, x0, x1, B1⟩ := take_eq (many := 9) hb (by omega) (by decide) (by decide)
  obtain ⟨c', b2, e2, c0, c1, B2⟩ := take_eq (many := 20) B1 (by omega) (by decide) (by decide)
  obtain ⟨c, rfl⟩ := Int.eq_ofNat_of_zero_le c0
  obtain ⟨r', e, L, p, b3, s3, rfl, hM, hB, q3⟩ := forN (pr := [0]) (tg := .nm 3) (body := exSs c_law_many [0] 100000 b_law_many_1) (ds := natD (List.range c)) (r := [.ow b2, .ow (.list [.tuple [.int 0, .int (1 + x)]]), .fz (.int 0), .un, .un, .un, .un, .un, .un])
    (fun i r => ∃ (L : List (Int × Int)) (p : Int) (b' : D) (s3 : Sl), r = [.ow b', .ow (.list (L.map pD)), .fz (.int p), s3, .un, .un, .un, .un, .un] ∧ Man L i p ∧ Bg (K + 2 + 3 * i) b' ∧ Fzu s3) ⟨[(0, 1 + x)], 0, b2, .un, rfl, ⟨⟨List.pairwise_singleton _ _, fun z hz => by rw [List.mem_singleton.mp hz]; show 1 + x ≠ 0; omega⟩, fun z hz => by rw [List.mem_singleton.mp hz]; exact ⟨Int.le_refl _, Int.le_refl _, by show (1 + x).natAbs ≤ 9; omega⟩, by decide, rfl⟩, B2, .inl rfl⟩ (fun i d r hd ⟨L, p, b', s3, hr, hM, hB, q3⟩ => by
      subst hr
      have hi : i < c := by
        have := (List.getElem?_eq_some_iff.mp hd).1
        rw [natD_len, List.length_range] at this
        exact this
      rw [natD_at (by rw [List.length_range]; exact hi), List.getElem_range] at hd
      cases hd
      obtain ⟨y, b4, e4, y0, y1, B4⟩ := take_eq (many := 3) hB (by omega) (by decide) (by decide)
      obtain ⟨s, b5, e5, s0, s1, B5⟩ := take_eq (many := 2) B4 (by omega) (by decide) (by decide)
      obtain ⟨w, b6, e6, w0, w1, B6⟩ := take_eq (many := 9) B5 (by omega) (by decide) (by decide)
      obtain ⟨v, hv, hv1⟩ := sgn_at s0 s1
      have hml : mulOk v (1 + w) = true := mulOk_lt 5 40 (by omega) (by omega) (by decide)
      have happ : muop .append (.list (L.map pD)) [.tuple [.int (p + 1 + y), .int (v * (1 + w))]] = some (.none, .list ((L ++ [(p + 1 + y, v * (1 + w))]).map pD)) := by
        rw [k_app (decide_eq_true (by rw [List.length_map, hM.ln]; omega)), List.map_append]
        rfl
      have hvb : (v * (1 + w)).natAbs ≤ 9 ∧ v * (1 + w) ≠ 0 := by rcases hv1 with rfl | rfl <;> omega
      refine ⟨[.ow b', .ow (.list (L.map pD)), .fz (.int p), .fz (.int i), .un, .un, .un, .un, .un], ?_, [.ow b6, .ow (.list ((L ++ [(p + 1 + y, v * (1 + w))]).map pD)), .fz (.int (p + 1 + y)), .fz (.int i), .un, .un, .un, .un, .un], ?_, L ++ [(p + 1 + y, v * (1 + w))], p + 1 + y, b6, _, rfl, ⟨⟨?_, fun z hz => ?_⟩, fun z hz => ?_, ?_, ?_⟩, ?_, .inr ⟨_, rfl⟩⟩
      · rcases q3 with rfl | ⟨d, rfl⟩ <;> simp [bindT, setSl]
      · have k1 : c_law_many "_law_take" = some f_law_take := rfl
        generalize L.map pD = P at *
        generalize (L ++ [(p + 1 + y, v * (1 + w))]).map pD = P2 at *
        unfold b_law_many_1
        simp [p_rd, p_cpo, p_cap, p_st, p_ret, p_arg, p_pk, p_bk, p_lo, p_lk, p_ul, rds, argsOf, setSl, lenOk, exS, exSs, evE, evSs, evCs, evAs, evTs, evI, protOf, outsOf, runF, fnB, Arg.sl, setAt, clCons, clNil, kdIs, isDict, k_bind, k_bindX, k_lift, k_stl1, k_stl2, k_stl3, k_cpo1, k_cpo2, k_rd1, k_rd2, k_bool, k_int, k_lit, k_add, k_sub, k_mul, k_mod, k_fdiv, k_pow, k_catL, k_catT, k_lt, k_le, k_gt, k_ge, k_eqI, k_neI, k_eqB, k_eq, k_ne, k_idxL, k_idxT, k_at, k_at0, k_at1, k_ix, k_lenL, k_lenT, k_abs, k_min, k_max, k_toL, k_toLT, k_toT, k_toTT, k_toI, k_toIB, k_sum, k_all, k_any, k_rng1, k_rng2, k_st1, k_st2, k_ret1, k_ret2, k_arg1, k_arg2, k_pk0, k_pk1, k_pk2, k_bk0, k_bk1, k_bk2, k_nd0, k_nd1, k_unl, k_lk0, k_ul0, k_lo1, k_sqL, k_sqT, k_app, k_clear, k_popAt, k_setD, k_setD0, k_setD1, dupV, k1, e4, e5, e6, hv, hml, happ]
      · refine List.pairwise_append.mpr ⟨hM.us.up, List.pairwise_singleton _ _, fun a ha b hb => ?_⟩
        rw [List.mem_singleton.mp hb]
        have := (hM.hi a ha).2.1
        show a.1 < p + 1 + y
        omega
      · rcases List.mem_append.mp hz with hz | hz
        · exact hM.us.nz z hz
        · rw [List.mem_singleton.mp hz]
          exact hvb.2
      · rcases List.mem_append.mp hz with hz | hz
        · have := hM.hi z hz
          exact ⟨this.1, by omega, this.2.2⟩
        · rw [List.mem_singleton.mp hz]
          have := (hM.hi ((L.head?).getD (0, 0)) (by
            have hl := hM.ln
            cases L with
            | nil => simp at hl
            | cons a L => simp))
          exact ⟨by show 0 ≤ p + 1 + y; omega, Int.le_refl _, hvb.1⟩
      · have := hM.pp
        omega
      · rw [List.length_append, hM.ln]
        rfl
      · rw [show K + 2 + 3 * (i + 1) = K + 2 + 3 * i + 1 + 1 + 1 by omega]
        exact B6)
  rw [natD_len, List.length_range] at hM hB
  obtain ⟨lo, b4, e4, l0, l1, B4⟩ := take_eq (many := 31) hB (by omega) (by decide) (by decide)
  obtain ⟨fa, b5, e5, f0, f1, B5⟩ := take_eq (many := 31) B4 (by omega) (by decide) (by decide)
  obtain ⟨s, b6, e6, s0, s1, B6⟩ := take_eq (many := 2) B5 (by omega) (by decide) (by decide)
  obtain ⟨w, b7, e7, w0, w1, B7⟩ := take_eq (many := 9) B6 (by omega) (by decide) (by decide)
  obtain ⟨v, hv, hv1⟩ := sgn_at s0 s1
  have hml : mulOk v (1 + w) = true := mulOk_lt 5 40 (by omega) (by omega) (by decide)
  have hvb : (v * (1 + w)).natAbs ≤ 9 ∧ v * (1 + w) ≠ 0 := by rcases hv1 with rfl | rfl <;> omega
  obtain ⟨nu, hnu⟩ : ∃ nu, v * (1 + w) = nu := ⟨_, rfl⟩
  rw [hnu] at hvb
  have hpp := hM.pp
  have hln := hM.ln
  have up : ∀ (sh : Int) (f : Int → Int), (∀ k, k ≠ 0 → f k ≠ 0) → Us (L.map fun z => (z.1 + sh, f z.2)) := fun sh f hf => ⟨List.pairwise_map.mpr (hM.us.up.imp fun h => by show _ + _ < _ + _; omega), fun z hz => by
    obtain ⟨y, hy, rfl⟩ := List.mem_map.mp hz
    exact hf _ (hM.us.nz y hy)⟩
  refine ⟨L.map fun z => (z.1 + (fa - 30), z.2 * nu), L.map fun z => (z.1 + (lo - 30), z.2), b7, ?_, ⟨up _ _ fun k hk => Int.mul_ne_zero hk hvb.2, up _ (fun k => k) fun k hk => hk, fun z hz => ?_, fun z hz => ?_, ?_, fun hn => ?_⟩, bg_up B7 (by omega)⟩
  · have k1 : c_law_many "_law_take" = some f_law_take := rfl
    have hrg : rngD 0 c = natD (List.range c) := rngD_nat c
    have hcb : -100000 ≤ (c : Int) ∧ (c : Int) ≤ 100000 := by omega
    have m2 : ∀ z ∈ L, mulOk z.2 nu = true := fun z hz => mulOk_lt 10 10 (by have := (hM.hi z hz).2.2; omega) (by omega) (by decide)
    have sw : ∀ (pr own : List Nat), True := fun _ _ => trivial
    have cA : ∀ s3 s5 : Sl, compL [0] [2, 8] (.t2 (.nm 2) (.nm 8)) (fun x => .ok true x) (fun r => cpo (evE c_law_many [0] e_law_many_2 r)) (L.map pD) [] [.ow b7, .lk (.list (L.map pD)), .un, s3, .fz (.int nu), s5, .fz (.int (lo - 30)), .fz (.int (fa - 30)), .un] = .ok ((L.map fun z => (z.1 + (fa - 30), z.2 * nu)).map pD) [.ow b7, .lk (.list (L.map pD)), .un, s3, .fz (.int nu), s5, .fz (.int (lo - 30)), .fz (.int (fa - 30)), .un] := fun s3 s5 => by
      rw [compL_via (g := fun z => pD (z.1 + (fa - 30), z.2 * nu)) L [] (fun z hz => ?_) (by simp; omega), List.nil_append, List.map_map]
      · rfl
      · have := m2 z hz
        generalize L.map pD = P at *
        refine ⟨[.ow b7, .lk (.list P), .fz (.int z.1), s3, .fz (.int nu), s5, .fz (.int (lo - 30)), .fz (.int (fa - 30)), .fz (.int z.2)], [.ow b7, .lk (.list P), .fz (.int z.1), s3, .fz (.int nu), s5, .fz (.int (lo - 30)), .fz (.int (fa - 30)), .fz (.int z.2)], by simp [bindT, setSl, pD], ?_, by simp [noLk], by simp [wipeR]⟩
        unfold e_law_many_2 pD
        simp [p_rd, p_cpo, p_cap, p_st, p_ret, p_arg, p_pk, p_bk, p_lo, p_lk, p_ul, rds, argsOf, setSl, lenOk, exS, exSs, evE, evSs, evCs, evAs, evTs, evI, protOf, outsOf, runF, fnB, Arg.sl, setAt, clCons, clNil, kdIs, isDict, k_bind, k_bindX, k_lift, k_stl1, k_stl2, k_stl3, k_cpo1, k_cpo2, k_rd1, k_rd2, k_bool, k_int, k_lit, k_add, k_sub, k_mul, k_mod, k_fdiv, k_pow, k_catL, k_catT, k_lt, k_le, k_gt, k_ge, k_eqI, k_neI, k_eqB, k_eq, k_ne, k_idxL, k_idxT, k_at, k_at0, k_at1, k_ix, k_lenL, k_lenT, k_abs, k_min, k_max, k_toL, k_toLT, k_toT, k_toTT, k_toI, k_toIB, k_sum, k_all, k_any, k_rng1, k_rng2, k_st1, k_st2, k_ret1, k_ret2, k_arg1, k_arg2, k_pk0, k_pk1, k_pk2, k_bk0, k_bk1, k_bk2, k_nd0, k_nd1, k_unl, k_lk0, k_ul0, k_lo1, k_sqL, k_sqT, k_app, k_clear, k_popAt, k_setD, k_setD0, k_setD1, dupV, this]
    have cO : ∀ s3 s5 : Sl, compL [0] [2, 8] (.t2 (.nm 2) (.nm 8)) (fun x => .ok true x) (fun r => cpo (evE c_law_many [0] e_law_many_1 r)) (L.map pD) [] [.ow b7, .lk (.list (L.map pD)), .un, s3, .fz (.int nu), s5, .fz (.int (lo - 30)), .fz (.int (fa - 30)), .un] = .ok ((L.map fun z => (z.1 + (lo - 30), z.2)).map pD) [.ow b7, .lk (.list (L.map pD)), .un, s3, .fz (.int nu), s5, .fz (.int (lo - 30)), .fz (.int (fa - 30)), .un] := fun s3 s5 => by
      rw [compL_via (g := fun z => pD (z.1 + (lo - 30), z.2)) L [] (fun z hz => ?_) (by simp; omega), List.nil_append, List.map_map]
      · rfl
      · generalize L.map pD = P at *
        refine ⟨[.ow b7, .lk (.list P), .fz (.int z.1), s3, .fz (.int nu), s5, .fz (.int (lo - 30)), .fz (.int (fa - 30)), .fz (.int z.2)], [.ow b7, .lk (.list P), .fz (.int z.1), s3, .fz (.int nu), s5, .fz (.int (lo - 30)), .fz (.int (fa - 30)), .fz (.int z.2)], by simp [bindT, setSl, pD], ?_, by simp [noLk], by simp [wipeR]⟩
        unfold e_law_many_1 pD
        simp [p_rd, p_cpo, p_cap, p_st, p_ret, p_arg, p_pk, p_bk, p_lo, p_lk, p_ul, rds, argsOf, setSl, lenOk, exS, exSs, evE, evSs, evCs, evAs, evTs, evI, protOf, outsOf, runF, fnB, Arg.sl, setAt, clCons, clNil, kdIs, isDict, k_bind, k_bindX, k_lift, k_stl1, k_stl2, k_stl3, k_cpo1, k_cpo2, k_rd1, k_rd2, k_bool, k_int, k_lit, k_add, k_sub, k_mul, k_mod, k_fdiv, k_pow, k_catL, k_catT, k_lt, k_le, k_gt, k_ge, k_eqI, k_neI, k_eqB, k_eq, k_ne, k_idxL, k_idxT, k_at, k_at0, k_at1, k_ix, k_lenL, k_lenT, k_abs, k_min, k_max, k_toL, k_toLT, k_toT, k_toTT, k_toI, k_toIB, k_sum, k_all, k_any, k_rng1, k_rng2, k_st1, k_st2, k_ret1, k_ret2, k_arg1, k_arg2, k_pk0, k_pk1, k_pk2, k_bk0, k_bk1, k_bk2, k_nd0, k_nd1, k_unl, k_lk0, k_ul0, k_lo1, k_sqL, k_sqT, k_app, k_clear, k_popAt, k_setD, k_setD0, k_setD1, dupV]
    clear up hM m2 hpp
    generalize (L.map fun z => (z.1 + (fa - 30), z.2 * nu)).map pD = ZA at *
    generalize (L.map fun z => (z.1 + (lo - 30), z.2)).map pD = ZO at *
    generalize L.map pD = P at *
    generalize natD (List.range c) = rg at *
    generalize hB1 : exSs c_law_many [0] 100000 b_law_many_1 = BD at *
    unfold f_law_many b_law_many
    rcases q3 with rfl | ⟨_, rfl⟩ <;> simp [p_rd, p_cpo, p_cap, p_st, p_ret, p_arg, p_pk, p_bk, p_lo, p_lk, p_ul, rds, argsOf, setSl, lenOk, exS, exSs, evE, evSs, evCs, evAs, evTs, evI, protOf, outsOf, runF, fnB, Arg.sl, setAt, clCons, clNil, kdIs, isDict, k_bind, k_bindX, k_lift, k_stl1, k_stl2, k_stl3, k_cpo1, k_cpo2, k_rd1, k_rd2, k_bool, k_int, k_lit, k_add, k_sub, k_mul, k_mod, k_fdiv, k_pow, k_catL, k_catT, k_lt, k_le, k_gt, k_ge, k_eqI, k_neI, k_eqB, k_eq, k_ne, k_idxL, k_idxT, k_at, k_at0, k_at1, k_ix, k_lenL, k_lenT, k_abs, k_min, k_max, k_toL, k_toLT, k_toT, k_toTT, k_toI, k_toIB, k_sum, k_all, k_any, k_rng1, k_rng2, k_st1, k_st2, k_ret1, k_ret2, k_arg1, k_arg2, k_pk0, k_pk1, k_pk2, k_bk0, k_bk1, k_bk2, k_nd0, k_nd1, k_unl, k_lk0, k_ul0, k_lo1, k_sqL, k_sqT, k_app, k_clear, k_popAt, k_setD, k_setD0, k_setD1, dupV, bindT, setSl, k1, e1, e2, e4, e5, e6, e7, hcb, hrg, hB1, e, hv, hml, hnu, cA, cO, wipeOk, wipeR, backR, lockR, unlockR]
  · obtain ⟨y, hy, rfl⟩ := List.mem_map.mp hz
    have := hM.hi y hy
    refine ⟨⟨by show -((200 : Nat) : Int) ≤ y.1 + (fa - 30); omega, by show y.1 + (fa - 30) ≤ ((200 : Nat) : Int); omega⟩, ?_⟩
    show (y.2 * nu).natAbs < 2 ^ 40
    rw [Int.natAbs_mul]
    have := Nat.mul_le_mul this.2.2 hvb.1
    omega
  · obtain ⟨y, hy, rfl⟩ := List.mem_map.mp hz
    have := hM.hi y hy
    refine ⟨⟨by show -((100 : Nat) : Int) ≤ y.1 + (lo - 30); omega, by show y.1 + (lo - 30) ≤ ((100 : Nat) : Int); omega⟩, ?_⟩
    show y.2.natAbs < 2 ^ 12
    omega
  · rw [List.length_map]
    omega
  · have h0 := congrArg List.length hn
    rw [List.length_map] at h0
    simp at h0
    rw [h0] at hln
    simp at hln
/-! ### k61: the law -/
theorem law_product_comp_fo {A B : List (Int × Int)} {X : D} {z : Int × Int} (hm : ∀ w ∈ B, mulOk z.2 w.2 = true) (hl : B.length ≤ 10000) :
    compL [1] [5, 6] (.t2 (.nm 5) (.nm 6)) (fun x => .ok true x) (fun r => cpo (evE c_law_product [1] e_law_product_1 r)) (B.map pD) [] [.fz (.list (A.map pD)), .lk (.list (B.map pD)), .ow X, .fz (.int z.1), .fz (.int z.2), .un, .un] = .ok ((B.map fun w => (z.1 + w.1, z.2 * w.2)).map pD) [.fz (.list (A.map pD)), .lk (.list (B.map pD)), .ow X, .fz (.int z.1), .fz (.int z.2), .un, .un] := by
  have key := compL_map (pr := [1]) (own := [5, 6]) (tg := .t2 (.nm 5) (.nm 6)) (test := fun x => .ok true x) (elt := fun r => cpo (evE c_law_product [1] e_law_product_1 r)) (r := [.fz (.list (A.map pD)), .lk (.list (B.map pD)), .ow X, .fz (.int z.1), .fz (.int z.2), .un, .un])
    (f := fun d => match d with | .tuple [.int x, .int y] => .tuple [.int (z.1 + x), .int (z.2 * y)] | d => d) (p := fun _ => true) (ds := B.map pD) (acc := []) (fun d hd => by
    obtain ⟨w, hw, rfl⟩ := List.mem_map.mp hd
    have h := hm w hw
    generalize A.map pD = P
    generalize B.map pD = Q
    refine ⟨[.fz (.list P), .lk (.list Q), .ow X, .fz (.int z.1), .fz (.int z.2), .fz (.int w.1), .fz (.int w.2)], [.fz (.list P), .lk (.list Q), .ow X, .fz (.int z.1), .fz (.int z.2), .fz (.int w.1), .fz (.int w.2)], by simp [bindT, setSl, pD], rfl, (fun h => by cases h), fun _ => ⟨[.fz (.list P), .lk (.list Q), .ow X, .fz (.int z.1), .fz (.int z.2), .fz (.int w.1), .fz (.int w.2)], ?_, by simp [noLk], by simp [wipeR]⟩⟩
    unfold e_law_product_1 c_law_product pD
    simp [p_rd, p_cpo, p_cap, p_st, p_ret, p_arg, p_pk, p_bk, p_lo, p_lk, p_ul, rds, argsOf, setSl, lenOk, exS, exSs, evE, evSs, evCs, evAs, evTs, evI, protOf, outsOf, runF, fnB, Arg.sl, setAt, clCons, clNil, kdIs, isDict, k_bind, k_bindX, k_lift, k_stl1, k_stl2, k_stl3, k_cpo1, k_cpo2, k_rd1, k_rd2, k_bool, k_int, k_lit, k_add, k_sub, k_mul, k_mod, k_fdiv, k_pow, k_catL, k_catT, k_lt, k_le, k_gt, k_ge, k_eqI, k_neI, k_eqB, k_eq, k_ne, k_idxL, k_idxT, k_at, k_at0, k_at1, k_ix, k_lenL, k_lenT, k_abs, k_min, k_max, k_toL, k_toLT, k_toT, k_toTT, k_toI, k_toIB, k_sum, k_all, k_any, k_rng1, k_rng2, k_st1, k_st2, k_ret1, k_ret2, k_arg1, k_arg2, k_pk0, k_pk1, k_pk2, k_bk0, k_bk1, k_bk2, k_nd0, k_nd1, k_unl, k_lk0, k_ul0, k_lo1, k_sqL, k_sqT, k_app, k_clear, k_popAt, k_setD, k_setD0, k_setD1, dupV, h]) (by
    simp only [List.length_nil, List.length_map]
    omega)
  rw [key, List.filter_eq_self.mpr fun _ _ => rfl, List.nil_append, List.map_map, List.map_map]
  rfl
theorem law_product_fo {A B : List (Int × Int)} (hm : ∀ z ∈ A, ∀ w ∈ B, mulOk z.2 w.2 = true) (hl : B.length ≤ 10000) (hl2 : A.length * B.length ≤ 100000) :
    f_law_product [.fz (.list (A.map pD)), .ow (.list (B.map pD))] = some (.val (.ow (.list ((tz (prodL A B)).map pD))), [.fz (.list (A.map pD)), .ow (.list (B.map pD))]) := by
  obtain ⟨r', e, s3, s4, rfl, _⟩ := forN (pr := [1]) (tg := .t2 (.nm 3) (.nm 4)) (body := exSs c_law_product [1] 100000 b_law_product_1) (ds := A.map pD) (r := [.fz (.list (A.map pD)), .ow (.list (B.map pD)), .ow (.list []), .un, .un, .un, .un])
    (fun i r => ∃ s3 s4, r = [.fz (.list (A.map pD)), .ow (.list (B.map pD)), .ow (.list ((prodL (A.take i) B).map pD)), s3, s4, .un, .un] ∧ Fzu s3 ∧ Fzu s4) ⟨.un, .un, rfl, .inl rfl, .inl rfl⟩ (fun i d r hd ⟨s3, s4, hr, q3, q4⟩ => by
      subst hr
      rw [List.getElem?_map] at hd
      obtain ⟨z, hz, rfl⟩ := Option.map_eq_some_iff.mp hd
      have hc := law_product_comp_fo (A := A) (B := B) (X := .list ((prodL (A.take i) B).map pD)) (z := z) (fun w hw => hm z (List.mem_of_getElem? hz) w hw) hl
      have hnx := prodL_take B hz
      have hlen := prodL_len (A.take (i + 1)) B
      have htk : (A.take (i + 1)).length ≤ A.length := by rw [List.length_take]; omega
      have hmm := Nat.mul_le_mul htk (Nat.le_refl B.length)
      rw [hnx]
      rw [hnx, List.length_append] at hlen
      rw [List.map_append]
      have hlo : ((prodL (A.take i) B).map pD).length + ((B.map fun w => (z.1 + w.1, z.2 * w.2)).map pD).length ≤ 100000 := by
        rw [List.length_map, List.length_map]
        omega
      generalize (B.map fun w => (z.1 + w.1, z.2 * w.2)).map pD = more at *
      generalize (prodL (A.take i) B).map pD = acc at *
      generalize A.map pD = P at *
      generalize B.map pD = Q at *
      refine ⟨[.fz (.list P), .ow (.list Q), .ow (.list acc), .fz (.int z.1), .fz (.int z.2), .un, .un], ?_, [.fz (.list P), .ow (.list Q), .ow (.list (acc ++ more)), .fz (.int z.1), .fz (.int z.2), .un, .un], ?_, .fz (.int z.1), .fz (.int z.2), rfl, .inr ⟨_, rfl⟩, .inr ⟨_, rfl⟩⟩
      · rcases q3 with rfl | ⟨d, rfl⟩ <;> rcases q4 with rfl | ⟨d, rfl⟩ <;> simp [bindT, setSl, pD]
      · unfold b_law_product_1
        unfold c_law_product at *
        simp [p_rd, p_cpo, p_cap, p_st, p_ret, p_arg, p_pk, p_bk, p_lo, p_lk, p_ul, rds, argsOf, setSl, lenOk, exS, exSs, evE, evSs, evCs, evAs, evTs, evI, protOf, outsOf, runF, fnB, Arg.sl, setAt, clCons, clNil, kdIs, isDict, k_bind, k_bindX, k_lift, k_stl1, k_stl2, k_stl3, k_cpo1, k_cpo2, k_rd1, k_rd2, k_bool, k_int, k_lit, k_add, k_sub, k_mul, k_mod, k_fdiv, k_pow, k_catL, k_catT, k_lt, k_le, k_gt, k_ge, k_eqI, k_neI, k_eqB, k_eq, k_ne, k_idxL, k_idxT, k_at, k_at0, k_at1, k_ix, k_lenL, k_lenT, k_abs, k_min, k_max, k_toL, k_toLT, k_toT, k_toTT, k_toI, k_toIB, k_sum, k_all, k_any, k_rng1, k_rng2, k_st1, k_st2, k_ret1, k_ret2, k_arg1, k_arg2, k_pk0, k_pk1, k_pk2, k_bk0, k_bk1, k_bk2, k_nd0, k_nd1, k_unl, k_lk0, k_ul0, k_lo1, k_sqL, k_sqT, k_app, k_clear, k_popAt, k_setD, k_setD0, k_setD1, dupV, wipeOk, wipeR, backR, hc, extItems, hlo])
  rw [List.length_map, List.take_length] at e
  have ht := tidy_eq (L := prodL A B) (Nat.le_trans (prodL_len A B) hl2)
  rw [← summed_same] at ht
  generalize (tz (prodL A B)).map pD = T at *
  generalize (prodL A B).map pD = Y at *
  generalize A.map pD = P at *
  generalize B.map pD = Q at *
  unfold f_law_product b_law_product
  unfold c_law_product at *
  simp [p_rd, p_cpo, p_cap, p_st, p_ret, p_arg, p_pk, p_bk, p_lo, p_lk, p_ul, rds, argsOf, setSl, lenOk, exS, exSs, evE, evSs, evCs, evAs, evTs, evI, protOf, outsOf, runF, fnB, Arg.sl, setAt, clCons, clNil, kdIs, isDict, k_bind, k_bindX, k_lift, k_stl1, k_stl2, k_stl3, k_cpo1, k_cpo2, k_rd1, k_rd2, k_bool, k_int, k_lit, k_add, k_sub, k_mul, k_mod, k_fdiv, k_pow, k_catL, k_catT, k_lt, k_le, k_gt, k_ge, k_eqI, k_neI, k_eqB, k_eq, k_ne, k_idxL, k_idxT, k_at, k_at0, k_at1, k_ix, k_lenL, k_lenT, k_abs, k_min, k_max, k_toL, k_toLT, k_toT, k_toTT, k_toI, k_toIB, k_sum, k_all, k_any, k_rng1, k_rng2, k_st1, k_st2, k_ret1, k_ret2, k_arg1, k_arg2, k_pk0, k_pk1, k_pk2, k_bk0, k_bk1, k_bk2, k_nd0, k_nd1, k_unl, k_lk0, k_ul0, k_lo1, k_sqL, k_sqT, k_app, k_clear, k_popAt, k_setD, k_setD0, k_setD1, dupV, e, ht]
theorem us_tail {A : List (Int × Int)} (h : Us A) : Us (A.drop 1) := ⟨List.Pairwise.sublist (List.drop_sublist 1 A) h.up, fun z hz => h.nz z (List.mem_of_mem_drop hz)⟩
theorem ok_tail {A O : List (Int × Int)} (h : Ok61 A O) : Ok61 (A.drop 1) O := ⟨us_tail h.uA, h.uO, fun z hz => h.bA z (List.mem_of_mem_drop hz), h.bO, h.lO, h.nO⟩
theorem ok_nil {A O : List (Int × Int)} (h : Ok61 A O) : Ok61 [] O := ⟨Us.nil, h.uO, fun z hz => absurd hz List.not_mem_nil, h.bO, h.lO, h.nO⟩
def Rw61 (x0 : D) (K : Nat) (r : Ro) : Prop := ∃ s1 s2 s3 s4 s5 s6, r = [.fz x0, s1, s2, s3, s4, s5, s6] ∧ Fzu s1 ∧ (s2 = .un ∨ ∃ d, s2 = .ow d) ∧ Fzu s3 ∧ Fzu s4 ∧ Any5 s5 ∧ Any5 s6
theorem law_fin {X Y : Sl} {A O : List (Int × Int)} {pr : List Nat} : True := trivial
theorem turn61 {ns : List Int} {i : Nat} (hi : i < 3) {r : Ro} (hr : Rw61 (intL ns) 0 r) : ∃ r1, bindT [] (.nm 1) (.int i) r = some r1 ∧ ∃ fl r2, exSs c_law [] 100000 b_law_1 r1 = .ok fl r2 ∧ (fl = .nx ∨ fl = .ct) ∧ Rw61 (intL ns) 0 r2 := by
  obtain ⟨s1, s2, s3, s4, s5, s6, rfl, q1, q2, q3, q4, q5, q6⟩ := hr
  refine ⟨[.fz (intL ns), .fz (.int i), s2, s3, s4, s5, s6], by rcases q1 with rfl | ⟨d, rfl⟩ <;> simp [bindT, setSl], ?_⟩
  obtain ⟨b, e1, B1⟩ := bag_eq ns i (by omega)
  obtain ⟨w, b2, e2, w0, w1, B2⟩ := take_eq (many := 6) B1 (by omega) (by decide) (by decide)
  have c1 : c_law "_law_bag" = some f_law_bag := rfl
  have c2 : c_law "_law_take" = some f_law_take := rfl
  have c3 : c_law "_law_long_row" = some f_law_long_row := rfl
  have c4 : c_law "_law_many" = some f_law_many := rfl
  have c5 : c_law "_law_right" = some f_law_right := rfl
  have c6 : c_law "_law_some" = some f_law_some := rfl
  have c7 : c_law "_law_product" = some f_law_product := rfl
  have c8 : c_law "_law_summed" = some f_law_summed := rfl
  by_cases hw : w > 3
  · have core : ∃ (A O : List (Int × Int)) (b3 : D), Ok61 A O ∧ ((w = 4 ∧ f_law_long_row [.ow b2] = some (.val (.fz (.tuple [.list (A.map pD), .list (O.map pD)])), [.ow b3])) ∨ (¬ w = 4 ∧ f_law_many [.ow b2] = some (.val (.fz (.tuple [.list (A.map pD), .list (O.map pD)])), [.ow b3]))) := by
      by_cases h4 : w = 4
      · obtain ⟨A, O, b3, e, h, _⟩ := long_eq B2 (by omega)
        exact ⟨A, O, b3, h, .inl ⟨h4, e⟩⟩
      · obtain ⟨A, O, b3, e, h, _⟩ := many_eq B2 (by omega)
        exact ⟨A, O, b3, h, .inr ⟨h4, e⟩⟩
    obtain ⟨A, O, b3, h, hc⟩ := core
    have r1 := right_eq (.inl ⟨rfl, rfl⟩) h
    have r2 := right_eq (.inl ⟨rfl, rfl⟩) (ok_tail h)
    have hcut : cutop (.list (A.map pD)) (some 1) none = some (.fr (.list ((A.drop 1).map pD))) := by
      rw [k_cut1, List.map_drop]
    refine ⟨.ct, [.fz (intL ns), .fz (.int i), .ow b3, .fz (.int w), s4, .fz (.list (O.map pD)), .fz (.list (A.map pD))], ?_, .inr rfl, _, _, _, _, _, _, rfl, .inr ⟨_, rfl⟩, .inr ⟨_, rfl⟩, .inr ⟨_, rfl⟩, q4, .inr (.inl ⟨_, rfl⟩), .inr (.inl ⟨_, rfl⟩)⟩
    clear h
    generalize (A.drop 1).map pD = Z3 at *
    generalize A.map pD = Z1 at *
    generalize O.map pD = Z2 at *
    unfold b_law_1
    rcases hc with ⟨h4, e3⟩ | ⟨h4, e3⟩
    · rcases q2 with rfl | ⟨_, rfl⟩ <;> rcases q3 with rfl | ⟨_, rfl⟩ <;> rcases q5 with rfl | ⟨_, rfl⟩ | ⟨_, rfl⟩ <;> rcases q6 with rfl | ⟨_, rfl⟩ | ⟨_, rfl⟩ <;> simp [p_rd, p_cpo, p_cap, p_st, p_ret, p_arg, p_pk, p_bk, p_lo, p_lk, p_ul, rds, argsOf, setSl, lenOk, exS, exSs, evE, evSs, evCs, evAs, evTs, evI, protOf, outsOf, runF, fnB, Arg.sl, setAt, clCons, clNil, kdIs, isDict, k_bind, k_bindX, k_lift, k_stl1, k_stl2, k_stl3, k_cpo1, k_cpo2, k_rd1, k_rd2, k_bool, k_int, k_lit, k_add, k_sub, k_mul, k_mod, k_fdiv, k_pow, k_catL, k_catT, k_lt, k_le, k_gt, k_ge, k_eqI, k_neI, k_eqB, k_eq, k_ne, k_idxL, k_idxT, k_at, k_at0, k_at1, k_ix, k_lenL, k_lenT, k_abs, k_min, k_max, k_toL, k_toLT, k_toT, k_toTT, k_toI, k_toIB, k_sum, k_all, k_any, k_rng1, k_rng2, k_st1, k_st2, k_ret1, k_ret2, k_arg1, k_arg2, k_pk0, k_pk1, k_pk2, k_bk0, k_bk1, k_bk2, k_nd0, k_nd1, k_unl, k_lk0, k_ul0, k_lo1, k_sqL, k_sqT, k_app, k_clear, k_popAt, k_setD, k_setD0, k_setD1, dupV, bindT, setSl, c1, c2, c3, c4, c5, e1, e2, e3, hw, h4, r1, r2, hcut]
    · rcases q2 with rfl | ⟨_, rfl⟩ <;> rcases q3 with rfl | ⟨_, rfl⟩ <;> rcases q5 with rfl | ⟨_, rfl⟩ | ⟨_, rfl⟩ <;> rcases q6 with rfl | ⟨_, rfl⟩ | ⟨_, rfl⟩ <;> simp [p_rd, p_cpo, p_cap, p_st, p_ret, p_arg, p_pk, p_bk, p_lo, p_lk, p_ul, rds, argsOf, setSl, lenOk, exS, exSs, evE, evSs, evCs, evAs, evTs, evI, protOf, outsOf, runF, fnB, Arg.sl, setAt, clCons, clNil, kdIs, isDict, k_bind, k_bindX, k_lift, k_stl1, k_stl2, k_stl3, k_cpo1, k_cpo2, k_rd1, k_rd2, k_bool, k_int, k_lit, k_add, k_sub, k_mul, k_mod, k_fdiv, k_pow, k_catL, k_catT, k_lt, k_le, k_gt, k_ge, k_eqI, k_neI, k_eqB, k_eq, k_ne, k_idxL, k_idxT, k_at, k_at0, k_at1, k_ix, k_lenL, k_lenT, k_abs, k_min, k_max, k_toL, k_toLT, k_toT, k_toTT, k_toI, k_toIB, k_sum, k_all, k_any, k_rng1, k_rng2, k_st1, k_st2, k_ret1, k_ret2, k_arg1, k_arg2, k_pk0, k_pk1, k_pk2, k_bk0, k_bk1, k_bk2, k_nd0, k_nd1, k_unl, k_lk0, k_ul0, k_lo1, k_sqL, k_sqT, k_app, k_clear, k_popAt, k_setD, k_setD0, k_setD1, dupV, bindT, setSl, c1, c2, c3, c4, c5, e1, e2, e3, hw, h4, r1, r2, hcut]
  · obtain ⟨x, b3, e3, x0, x1, B3⟩ := take_eq (many := 121) B2 (by omega) (by decide) (by decide)
    obtain ⟨s, b4, e4, s0, s1', B4⟩ := take_eq (many := 2) B3 (by omega) (by decide) (by decide)
    obtain ⟨y, b5, e5, y0, y1, B5⟩ := take_eq (many := 9) B4 (by omega) (by decide) (by decide)
    obtain ⟨v, hv, hv1⟩ := sgn_at s0 s1'
    have hml : mulOk v (1 + y) = true := mulOk_lt 5 40 (by omega) (by omega) (by decide)
    obtain ⟨O1, b6, e6, uO1, dO1, lO1, nO1, B6⟩ := some_eq (l := 1) B5 (by omega) (by decide)
    obtain ⟨L0, b7, e7, uL0, dL0, lL0, _, B7⟩ := some_eq (l := 0) B6 (by omega) (by decide)
    have hpr := law_product_fo (A := L0) (B := O1) (fun z hz w hw => mulOk_lt 8 8 (dL0 z hz).2 (dO1 w hw).2 (by decide)) (by omega) (by
      have := Nat.mul_le_mul lL0 lO1
      omega)
    have dP : Bd 60 16 (prodL L0 O1) := fun z hz => by
      obtain ⟨a, ha, hz⟩ := List.mem_flatMap.mp hz
      obtain ⟨o, ho, rfl⟩ := List.mem_map.mp hz
      have h1 := dL0 a ha
      have h2 := dO1 o ho
      refine ⟨⟨by show -((60 : Nat) : Int) ≤ a.1 + o.1; omega, by show a.1 + o.1 ≤ ((60 : Nat) : Int); omega⟩, ?_⟩
      show (a.2 * o.2).natAbs < 2 ^ (8 + 8)
      rw [Int.natAbs_mul, Nat.pow_add]
      exact Nat.mul_lt_mul'' h1.2 h2.2
    have lP : (prodL L0 O1).length ≤ 25 := Nat.le_trans (prodL_len _ _) (Nat.mul_le_mul lL0 lO1)
    have dT : Bd 60 21 (tz (prodL L0 O1)) := tz_bd (c := 5) dP (by omega)
    have lT : (tz (prodL L0 O1)).length ≤ 25 := Nat.le_trans (tz_len _) lP
    have dM : Bd 60 21 (tz (prodL L0 O1) ++ [(x - 60, v * (1 + y))]) := fun z hz => by
      rcases List.mem_append.mp hz with hz | hz
      · exact dT z hz
      · rw [List.mem_singleton.mp hz]
        refine ⟨⟨by show -((60 : Nat) : Int) ≤ x - 60; omega, by show x - 60 ≤ ((60 : Nat) : Int); omega⟩, ?_⟩
        show (v * (1 + y)).natAbs < 2 ^ 21
        rcases hv1 with rfl | rfl <;> omega
    have dTM : Bd 60 26 (tz (tz (prodL L0 O1) ++ [(x - 60, v * (1 + y))])) := tz_bd (c := 5) dM (by rw [List.length_append, List.length_singleton]; omega)
    have hsm := tidy_eq (L := tz (prodL L0 O1) ++ [(x - 60, v * (1 + y))]) (by rw [List.length_append, List.length_singleton]; omega)
    rw [← summed_same] at hsm
    have hcat : binop .add (.list ((tz (prodL L0 O1)).map pD)) (.list [.tuple [.int (x - 60), .int (v * (1 + y))]]) = some (.fr (.list ((tz (prodL L0 O1) ++ [(x - 60, v * (1 + y))]).map pD))) := by
      rw [k_catL (decide_eq_true (by rw [List.length_map]; simp; omega)), List.map_append]
      rfl
    obtain ⟨O2, b8, e8, uO2, dO2, lO2, nO2, _⟩ := some_eq (l := 1) B7 (by omega) (by decide)
    have okf : ∀ (A O : List (Int × Int)), Us A → Us O → Bd 60 26 A → Bd 30 8 O → O.length ≤ 5 → O ≠ [] → Ok61 A O := fun A O h1 h2 h3 h4 h5 h6 => ⟨h1, h2, h3.mono (by decide) (by decide), h4.mono (by decide) (by decide), by omega, h6⟩
    by_cases hw1 : w > 1
    · have ok := okf _ O1 (Us.tz (tz (prodL L0 O1) ++ [(x - 60, v * (1 + y))])) uO1 dTM dO1 lO1 (nO1 rfl)
      have r1 := right_eq (.inr ⟨rfl, rfl⟩) ok
      have r2 := right_eq (.inl ⟨rfl, rfl⟩) (ok_nil ok)
      rw [List.map_nil] at r2
      have hw2 : ¬ w = 1 := by omega
      refine ⟨.nx, [.fz (intL ns), .fz (.int i), .ow b7, .fz (.int w), .fz (.tuple [.int (x - 60), .int (v * (1 + y))]), .fz (.list (O1.map pD)), .fz (.list ((tz (tz (prodL L0 O1) ++ [(x - 60, v * (1 + y))])).map pD))], ?_, .inl rfl, _, _, _, _, _, _, rfl, .inr ⟨_, rfl⟩, .inr ⟨_, rfl⟩, .inr ⟨_, rfl⟩, .inr ⟨_, rfl⟩, .inr (.inl ⟨_, rfl⟩), .inr (.inl ⟨_, rfl⟩)⟩
      clear ok okf dTM dM dT dP
      generalize (tz (tz (prodL L0 O1) ++ [(x - 60, v * (1 + y))])).map pD = Z1 at *
      generalize (tz (prodL L0 O1) ++ [(x - 60, v * (1 + y))]).map pD = Z2 at *
      generalize (tz (prodL L0 O1)).map pD = Z3 at *
      generalize O1.map pD = Z4 at *
      generalize L0.map pD = Z5 at *
      unfold b_law_1
      simp at e6 e7
      rcases q2 with rfl | ⟨_, rfl⟩ <;> rcases q3 with rfl | ⟨_, rfl⟩ <;> rcases q4 with rfl | ⟨_, rfl⟩ <;> rcases q5 with rfl | ⟨_, rfl⟩ | ⟨_, rfl⟩ <;> rcases q6 with rfl | ⟨_, rfl⟩ | ⟨_, rfl⟩ <;> simp [p_rd, p_cpo, p_cap, p_st, p_ret, p_arg, p_pk, p_bk, p_lo, p_lk, p_ul, rds, argsOf, setSl, lenOk, exS, exSs, evE, evSs, evCs, evAs, evTs, evI, protOf, outsOf, runF, fnB, Arg.sl, setAt, clCons, clNil, kdIs, isDict, k_bind, k_bindX, k_lift, k_stl1, k_stl2, k_stl3, k_cpo1, k_cpo2, k_rd1, k_rd2, k_bool, k_int, k_lit, k_add, k_sub, k_mul, k_mod, k_fdiv, k_pow, k_catL, k_catT, k_lt, k_le, k_gt, k_ge, k_eqI, k_neI, k_eqB, k_eq, k_ne, k_idxL, k_idxT, k_at, k_at0, k_at1, k_ix, k_lenL, k_lenT, k_abs, k_min, k_max, k_toL, k_toLT, k_toT, k_toTT, k_toI, k_toIB, k_sum, k_all, k_any, k_rng1, k_rng2, k_st1, k_st2, k_ret1, k_ret2, k_arg1, k_arg2, k_pk0, k_pk1, k_pk2, k_bk0, k_bk1, k_bk2, k_nd0, k_nd1, k_unl, k_lk0, k_ul0, k_lo1, k_sqL, k_sqT, k_app, k_clear, k_popAt, k_setD, k_setD0, k_setD1, dupV, nodupB, bindT, setSl, c1, c2, c5, c6, c7, c8, e1, e2, hw, hw1, hw2, e3, e4, e5, hv, hml, e6, e7, hpr, hsm, hcat, r1, r2]
    · by_cases hw2 : w = 1
      · have ok := okf _ O2 (Us.tz (prodL L0 O1)) uO2 (dT.mono (Nat.le_refl _) (by decide)) dO2 lO2 (nO2 rfl)
        have r1 := right_eq (.inr ⟨rfl, rfl⟩) ok
        have r2 := right_eq (.inl ⟨rfl, rfl⟩) (ok_nil ok)
        rw [List.map_nil] at r2
        refine ⟨.nx, [.fz (intL ns), .fz (.int i), .ow b8, .fz (.int w), .fz (.tuple [.int (x - 60), .int (v * (1 + y))]), .fz (.list (O2.map pD)), .fz (.list ((tz (prodL L0 O1)).map pD))], ?_, .inl rfl, _, _, _, _, _, _, rfl, .inr ⟨_, rfl⟩, .inr ⟨_, rfl⟩, .inr ⟨_, rfl⟩, .inr ⟨_, rfl⟩, .inr (.inl ⟨_, rfl⟩), .inr (.inl ⟨_, rfl⟩)⟩
        clear ok okf dTM dM dT dP hsm hcat
        generalize (tz (prodL L0 O1)).map pD = Z3 at *
        generalize O1.map pD = Z4 at *
        generalize O2.map pD = Z6 at *
        generalize L0.map pD = Z5 at *
        unfold b_law_1
        simp at e6 e7 e8
        subst hw2
        rcases q2 with rfl | ⟨_, rfl⟩ <;> rcases q3 with rfl | ⟨_, rfl⟩ <;> rcases q4 with rfl | ⟨_, rfl⟩ <;> rcases q5 with rfl | ⟨_, rfl⟩ | ⟨_, rfl⟩ <;> rcases q6 with rfl | ⟨_, rfl⟩ | ⟨_, rfl⟩ <;> simp [p_rd, p_cpo, p_cap, p_st, p_ret, p_arg, p_pk, p_bk, p_lo, p_lk, p_ul, rds, argsOf, setSl, lenOk, exS, exSs, evE, evSs, evCs, evAs, evTs, evI, protOf, outsOf, runF, fnB, Arg.sl, setAt, clCons, clNil, kdIs, isDict, k_bind, k_bindX, k_lift, k_stl1, k_stl2, k_stl3, k_cpo1, k_cpo2, k_rd1, k_rd2, k_bool, k_int, k_lit, k_add, k_sub, k_mul, k_mod, k_fdiv, k_pow, k_catL, k_catT, k_lt, k_le, k_gt, k_ge, k_eqI, k_neI, k_eqB, k_eq, k_ne, k_idxL, k_idxT, k_at, k_at0, k_at1, k_ix, k_lenL, k_lenT, k_abs, k_min, k_max, k_toL, k_toLT, k_toT, k_toTT, k_toI, k_toIB, k_sum, k_all, k_any, k_rng1, k_rng2, k_st1, k_st2, k_ret1, k_ret2, k_arg1, k_arg2, k_pk0, k_pk1, k_pk2, k_bk0, k_bk1, k_bk2, k_nd0, k_nd1, k_unl, k_lk0, k_ul0, k_lo1, k_sqL, k_sqT, k_app, k_clear, k_popAt, k_setD, k_setD0, k_setD1, dupV, nodupB, bindT, setSl, c1, c2, c5, c6, c7, c8, e1, e2, e3, e4, e5, hv, hml, e6, e7, e8, hpr, r1, r2]
      · have ok := okf _ O1 (Us.tz (prodL L0 O1)) uO1 (dT.mono (Nat.le_refl _) (by decide)) dO1 lO1 (nO1 rfl)
        have r1 := right_eq (.inr ⟨rfl, rfl⟩) ok
        have r2 := right_eq (.inl ⟨rfl, rfl⟩) (ok_nil ok)
        rw [List.map_nil] at r2
        refine ⟨.nx, [.fz (intL ns), .fz (.int i), .ow b7, .fz (.int w), .fz (.tuple [.int (x - 60), .int (v * (1 + y))]), .fz (.list (O1.map pD)), .fz (.list ((tz (prodL L0 O1)).map pD))], ?_, .inl rfl, _, _, _, _, _, _, rfl, .inr ⟨_, rfl⟩, .inr ⟨_, rfl⟩, .inr ⟨_, rfl⟩, .inr ⟨_, rfl⟩, .inr (.inl ⟨_, rfl⟩), .inr (.inl ⟨_, rfl⟩)⟩
        clear ok okf dTM dM dT dP hsm hcat
        generalize (tz (prodL L0 O1)).map pD = Z3 at *
        generalize O1.map pD = Z4 at *
        generalize L0.map pD = Z5 at *
        unfold b_law_1
        simp at e6 e7
        rcases q2 with rfl | ⟨_, rfl⟩ <;> rcases q3 with rfl | ⟨_, rfl⟩ <;> rcases q4 with rfl | ⟨_, rfl⟩ <;> rcases q5 with rfl | ⟨_, rfl⟩ | ⟨_, rfl⟩ <;> rcases q6 with rfl | ⟨_, rfl⟩ | ⟨_, rfl⟩ <;> simp [p_rd, p_cpo, p_cap, p_st, p_ret, p_arg, p_pk, p_bk, p_lo, p_lk, p_ul, rds, argsOf, setSl, lenOk, exS, exSs, evE, evSs, evCs, evAs, evTs, evI, protOf, outsOf, runF, fnB, Arg.sl, setAt, clCons, clNil, kdIs, isDict, k_bind, k_bindX, k_lift, k_stl1, k_stl2, k_stl3, k_cpo1, k_cpo2, k_rd1, k_rd2, k_bool, k_int, k_lit, k_add, k_sub, k_mul, k_mod, k_fdiv, k_pow, k_catL, k_catT, k_lt, k_le, k_gt, k_ge, k_eqI, k_neI, k_eqB, k_eq, k_ne, k_idxL, k_idxT, k_at, k_at0, k_at1, k_ix, k_lenL, k_lenT, k_abs, k_min, k_max, k_toL, k_toLT, k_toT, k_toTT, k_toI, k_toIB, k_sum, k_all, k_any, k_rng1, k_rng2, k_st1, k_st2, k_ret1, k_ret2, k_arg1, k_arg2, k_pk0, k_pk1, k_pk2, k_bk0, k_bk1, k_bk2, k_nd0, k_nd1, k_unl, k_lk0, k_ul0, k_lo1, k_sqL, k_sqT, k_app, k_clear, k_popAt, k_setD, k_setD0, k_setD1, dupV, nodupB, bindT, setSl, c1, c2, c5, c6, c7, c8, e1, e2, hw, hw1, hw2, e3, e4, e5, hv, hml, e6, e7, hpr, r1, r2]
theorem law_true : LawTrue f_law := fun ns hl => by
  have h0 : Rw61 (intL ns) 0 [.fz (intL ns), .un, .un, .un, .un, .un, .un] := ⟨_, _, _, _, _, _, rfl, .inl rfl, .inl rfl, .inl rfl, .inl rfl, .inl rfl, .inl rfl⟩
  obtain ⟨r1, b1, f1, t1, g1, n1, h1⟩ := turn61 (i := 0) (by decide) h0
  obtain ⟨r2, b2, f2, t2, g2, n2, h2⟩ := turn61 (i := 1) (by decide) h1
  obtain ⟨r3, b3, f3, t3, g3, n3, h3⟩ := turn61 (i := 2) (by decide) h2
  have e : forL [] (.nm 1) (exSs c_law [] 100000 b_law_1) [.int (0 : Nat), .int (1 : Nat), .int (2 : Nat)] [.fz (intL ns), .un, .un, .un, .un, .un, .un] = .ok .nx t3 := by
    rcases n1 with rfl | rfl <;> rcases n2 with rfl | rfl <;> rcases n3 with rfl | rfl <;> simp only [forL, b1, g1, b2, g2, b3, g3]
  obtain ⟨s1, s2, s3, s4, s5, s6, rfl, _⟩ := h3
  have hrg : itemsRng [.int (3 : Int)] = some [.int (0 : Nat), .int (1 : Nat), .int (2 : Nat)] := rfl
  refine ⟨[.fz (intL ns)], ?_⟩
  show f_law [.fz (intL ns)] = _
  generalize ([.int (0 : Nat), .int (1 : Nat), .int (2 : Nat)] : List D) = rg at *
  generalize hB : exSs c_law [] 100000 b_law_1 = B1 at *
  unfold f_law b_law
  simp [p_rd, p_cpo, p_cap, p_st, p_ret, p_arg, p_pk, p_bk, p_lo, p_lk, p_ul, rds, argsOf, setSl, lenOk, exS, exSs, evE, evSs, evCs, evAs, evTs, evI, protOf, outsOf, runF, fnB, Arg.sl, setAt, clCons, clNil, kdIs, isDict, k_bind, k_bindX, k_lift, k_stl1, k_stl2, k_stl3, k_cpo1, k_cpo2, k_rd1, k_rd2, k_bool, k_int, k_lit, k_add, k_sub, k_mul, k_mod, k_fdiv, k_pow, k_catL, k_catT, k_lt, k_le, k_gt, k_ge, k_eqI, k_neI, k_eqB, k_eq, k_ne, k_idxL, k_idxT, k_at, k_at0, k_at1, k_ix, k_lenL, k_lenT, k_abs, k_min, k_max, k_toL, k_toLT, k_toT, k_toTT, k_toI, k_toIB, k_sum, k_all, k_any, k_rng1, k_rng2, k_st1, k_st2, k_ret1, k_ret2, k_arg1, k_arg2, k_pk0, k_pk1, k_pk2, k_bk0, k_bk1, k_bk2, k_nd0, k_nd1, k_unl, k_lk0, k_ul0, k_lo1, k_sqL, k_sqT, k_app, k_clear, k_popAt, k_setD, k_setD0, k_setD1, dupV, hB, hrg, e]
def top (i : Nat) : Stmt := PySem.Challenge.pw_rookborders_k61_sums_parted.main.body.getD i (.Pass ⟨0, 0, 0, 0⟩)
abbrev s_tidy : Stmt := top 12
abbrev n_tidy : List Str := ["tuples", "found", "power", "many"]
abbrev p_tidy : List Str := ["tuples"]
theorem k_tidy : ckSs n_tidy (defScope s_tidy) b_tidy (defBody s_tidy) = true := by decide +kernel
theorem sc_tidy : FnScope n_tidy p_tidy (defScope s_tidy) := ⟨rfl, rfl, rfl, by decide +kernel, rfl, by decide +kernel, by decide +kernel⟩
abbrev s_turned_down : Stmt := top 13
abbrev n_turned_down : List Str := ["one", "power", "many"]
abbrev p_turned_down : List Str := ["one"]
theorem k_turned_down : ckSs n_turned_down (defScope s_turned_down) b_turned_down (defBody s_turned_down) = true := by decide +kernel
theorem sc_turned_down : FnScope n_turned_down p_turned_down (defScope s_turned_down) := ⟨rfl, rfl, rfl, by decide +kernel, rfl, by decide +kernel, by decide +kernel⟩
abbrev s_minus : Stmt := top 14
abbrev n_minus : List Str := ["one", "other"]
abbrev p_minus : List Str := ["one", "other"]
theorem k_minus : ckSs n_minus (defScope s_minus) b_minus (defBody s_minus) = true := by decide +kernel
theorem sc_minus : FnScope n_minus p_minus (defScope s_minus) := ⟨rfl, rfl, rfl, by decide +kernel, rfl, by decide +kernel, by decide +kernel⟩
abbrev s_times : Stmt := top 15
abbrev n_times : List Str := ["one", "other", "found", "power", "many", "more", "often"]
abbrev p_times : List Str := ["one", "other"]
theorem k_times : ckSs n_times (defScope s_times) b_times (defBody s_times) = true := by decide +kernel
theorem sc_times : FnScope n_times p_times (defScope s_times) := ⟨rfl, rfl, rfl, by decide +kernel, rfl, by decide +kernel, by decide +kernel⟩
abbrev s_parted : Stmt := top 16
abbrev n_parted : List Str := ["one", "other", "left", "found", "top", "lead", "shift", "power", "many"]
abbrev p_parted : List Str := ["one", "other"]
theorem k_parted : ckSs n_parted (defScope s_parted) b_parted (defBody s_parted) = true := by decide +kernel
theorem sc_parted : FnScope n_parted p_parted (defScope s_parted) := ⟨rfl, rfl, rfl, by decide +kernel, rfl, by decide +kernel, by decide +kernel⟩
abbrev s_law_cell : Stmt := top 18
abbrev n_law_cell : List Str := ["_law_script", "_law_k"]
abbrev p_law_cell : List Str := ["_law_script", "_law_k"]
theorem k_law_cell : ckSs n_law_cell (defScope s_law_cell) b_law_cell (defBody s_law_cell) = true := by decide +kernel
theorem sc_law_cell : FnScope n_law_cell p_law_cell (defScope s_law_cell) := ⟨rfl, rfl, rfl, by decide +kernel, rfl, by decide +kernel, by decide +kernel⟩
abbrev s_law_bag : Stmt := top 19
abbrev n_law_bag : List Str := ["_law_script", "_law_at", "_law_cell_here", "_law_mix", "_law_k"]
abbrev p_law_bag : List Str := ["_law_script", "_law_at"]
theorem k_law_bag : ckSs n_law_bag (defScope s_law_bag) b_law_bag (defBody s_law_bag) = true := by decide +kernel
theorem sc_law_bag : FnScope n_law_bag p_law_bag (defScope s_law_bag) := ⟨rfl, rfl, rfl, by decide +kernel, rfl, by decide +kernel, by decide +kernel⟩
abbrev s_law_take : Stmt := top 20
abbrev n_law_take : List Str := ["_law_bag_here", "_law_many_here", "_law_digit"]
abbrev p_law_take : List Str := ["_law_bag_here", "_law_many_here"]
theorem k_law_take : ckSs n_law_take (defScope s_law_take) b_law_take (defBody s_law_take) = true := by decide +kernel
theorem sc_law_take : FnScope n_law_take p_law_take (defScope s_law_take) := ⟨rfl, rfl, rfl, by decide +kernel, rfl, by decide +kernel, by decide +kernel⟩
abbrev s_law_whole : Stmt := top 21
abbrev n_law_whole : List Str := ["_law_thing"]
abbrev p_law_whole : List Str := ["_law_thing"]
theorem k_law_whole : ckSs n_law_whole (defScope s_law_whole) b_law_whole (defBody s_law_whole) = true := by decide +kernel
theorem sc_law_whole : FnScope n_law_whole p_law_whole (defScope s_law_whole) := ⟨rfl, rfl, rfl, by decide +kernel, rfl, by decide +kernel, by decide +kernel⟩
abbrev s_law_is_sum : Stmt := top 22
abbrev n_law_is_sum : List Str := ["_law_found", "_law_one", "_law_two"]
abbrev p_law_is_sum : List Str := ["_law_found"]
theorem k_law_is_sum : ckSs n_law_is_sum (defScope s_law_is_sum) b_law_is_sum (defBody s_law_is_sum) = true := by decide +kernel
theorem sc_law_is_sum : FnScope n_law_is_sum p_law_is_sum (defScope s_law_is_sum) := ⟨rfl, rfl, rfl, by decide +kernel, rfl, by decide +kernel, by decide +kernel⟩
abbrev s_law_summed : Stmt := top 23
abbrev n_law_summed : List Str := ["_law_tuples", "_law_many_here", "_law_power", "_law_number"]
abbrev p_law_summed : List Str := ["_law_tuples"]
theorem k_law_summed : ckSs n_law_summed (defScope s_law_summed) b_law_summed (defBody s_law_summed) = true := by decide +kernel
theorem sc_law_summed : FnScope n_law_summed p_law_summed (defScope s_law_summed) := ⟨rfl, rfl, rfl, by decide +kernel, rfl, by decide +kernel, by decide +kernel⟩
abbrev s_law_product : Stmt := top 24
abbrev n_law_product : List Str := ["_law_one", "_law_other", "_law_found", "_law_power", "_law_number", "_law_more", "_law_often"]
abbrev p_law_product : List Str := ["_law_one", "_law_other"]
theorem k_law_product : ckSs n_law_product (defScope s_law_product) b_law_product (defBody s_law_product) = true := by decide +kernel
theorem sc_law_product : FnScope n_law_product p_law_product (defScope s_law_product) := ⟨rfl, rfl, rfl, by decide +kernel, rfl, by decide +kernel, by decide +kernel⟩
abbrev s_law_kind : Stmt := top 25
abbrev n_law_kind : List Str := ["_law_e", "_law_marks"]
abbrev p_law_kind : List Str := ["_law_e"]
abbrev q_law_kind : List Rk.QS := [.asg 1 (.asks [(.isC "NoSquare"), (.isC "NoMove"), (.isC "TooMany"), (.isC "NoPart")]), .asg 1 (.cat (.var 1) (.asks [(.isC "NotOne"), (.isC "NoPaper"), (.isC "NoText"), (.isC "NoRow")])), .asg 1 (.cat (.var 1) (.asks [(.isC "NoStep")])), .ifr (.orr (.ne (.cnt (.var 1)) (.lit (.int 1))) (.ask (.nt .isV))) (.lit (.int (-1))), .ret (.fnd (.var 1))]
theorem k_law_kind : ckQS n_law_kind (defScope s_law_kind) 0 q_law_kind (defBody s_law_kind) = true := by decide +kernel
theorem sc_law_kind : FnScope n_law_kind p_law_kind (defScope s_law_kind) := ⟨rfl, rfl, rfl, by decide +kernel, rfl, by decide +kernel, by decide +kernel⟩
abbrev s_law_some : Stmt := top 26
abbrev n_law_some : List Str := ["_law_bag_here", "_law_least", "_law_wide", "_law_found", "_law_k"]
abbrev p_law_some : List Str := ["_law_bag_here", "_law_least"]
theorem k_law_some : ckSs n_law_some (defScope s_law_some) b_law_some (defBody s_law_some) = true := by decide +kernel
theorem sc_law_some : FnScope n_law_some p_law_some (defScope s_law_some) := ⟨rfl, rfl, rfl, by decide +kernel, rfl, by decide +kernel, by decide +kernel⟩
abbrev s_law_upward : Stmt := top 27
abbrev n_law_upward : List Str := ["_law_one", "_law_other", "_law_left", "_law_found", "_law_shift", "_law_low", "_law_first", "_law_number", "_law_power", "_law_often"]
abbrev p_law_upward : List Str := ["_law_one", "_law_other"]
theorem k_law_upward : ckSs n_law_upward (defScope s_law_upward) b_law_upward (defBody s_law_upward) = true := by decide +kernel
theorem sc_law_upward : FnScope n_law_upward p_law_upward (defScope s_law_upward) := ⟨rfl, rfl, rfl, by decide +kernel, rfl, by decide +kernel, by decide +kernel⟩
abbrev s_law_said : Stmt := top 28
abbrev n_law_said : List Str := ["_law_one", "_law_other", "_law_e"]
abbrev p_law_said : List Str := ["_law_one", "_law_other"]
abbrev q_law_said : List Rk.QS := [.ret (.call "_law_kind")]
theorem k_law_said : tryCkQ n_law_said (defScope s_law_said) b_law_said "RookError" "_law_e" 2 q_law_said (defBody s_law_said) = true := by decide +kernel
theorem sc_law_said : FnScope n_law_said p_law_said (defScope s_law_said) := ⟨rfl, rfl, rfl, by decide +kernel, rfl, by decide +kernel, by decide +kernel⟩
abbrev s_law_right : Stmt := top 29
abbrev n_law_right : List Str := ["_law_one", "_law_other", "_law_due", "_law_handed", "_law_turn", "_law_found"]
abbrev p_law_right : List Str := ["_law_one", "_law_other"]
theorem k_law_right : ckSs n_law_right (defScope s_law_right) b_law_right (defBody s_law_right) = true := by decide +kernel
theorem sc_law_right : FnScope n_law_right p_law_right (defScope s_law_right) := ⟨rfl, rfl, rfl, by decide +kernel, rfl, by decide +kernel, by decide +kernel⟩
abbrev s_law_long_row : Stmt := top 30
abbrev n_law_long_row : List Str := ["_law_bag_here", "_law_step", "_law_count", "_law_low", "_law_by", "_law_number", "_law_near"]
abbrev p_law_long_row : List Str := ["_law_bag_here"]
theorem k_law_long_row : ckSs n_law_long_row (defScope s_law_long_row) b_law_long_row (defBody s_law_long_row) = true := by decide +kernel
theorem sc_law_long_row : FnScope n_law_long_row p_law_long_row (defScope s_law_long_row) := ⟨rfl, rfl, rfl, by decide +kernel, rfl, by decide +kernel, by decide +kernel⟩
abbrev s_law_many : Stmt := top 31
abbrev n_law_many : List Str := ["_law_bag_here", "_law_found", "_law_power", "_law_k", "_law_number", "_law_one", "_law_low", "_law_far", "_law_many_here"]
abbrev p_law_many : List Str := ["_law_bag_here"]
theorem k_law_many : ckSs n_law_many (defScope s_law_many) b_law_many (defBody s_law_many) = true := by decide +kernel
theorem sc_law_many : FnScope n_law_many p_law_many (defScope s_law_many) := ⟨rfl, rfl, rfl, by decide +kernel, rfl, by decide +kernel, by decide +kernel⟩
abbrev s_law : Stmt := top 32
abbrev n_law : List Str := ["_law_script", "_law_k", "_law_bag_here", "_law_way", "_law_more", "_law_other", "_law_one"]
abbrev p_law : List Str := ["_law_script"]
theorem k_law : ckSs n_law (defScope s_law) b_law (defBody s_law) = true := by decide +kernel
theorem sc_law : FnScope n_law p_law (defScope s_law) := ⟨rfl, rfl, rfl, by decide +kernel, rfl, by decide +kernel, by decide +kernel⟩
theorem all_mk {l : PySem.W.OpenLaw} {w : World} {K : PySem.W.Frag} {h : Heap} {mg : Str → Option Value} {fa : Addr} (X : K.In h) (G : h.Ns mainGlobals mg) (hfa : mg "law" = some (.ref fa))
    {f1 f2 f3 f4 f5 f6 f7 f8 f9 f10 f11 f12 f13 f14 f15 f16 f17 f18 f19 f20 : Addr} {od1 an1 od2 an2 od3 an3 od4 an4 od5 an5 od6 an6 od7 an7 od8 an8 od9 an9 od10 an10 od11 an11 od12 an12 od13 an13 od14 an14 od15 an15 od16 an16 od17 an17 od18 an18 od19 an19 od20 an20 : Option Addr} {sl1 sl2 sl3 sl4 sl5 sl6 sl7 sl8 sl9 sl10 sl11 sl12 sl13 sl14 sl15 sl16 sl17 sl18 sl19 sl20 : Array (Option Value)} {oc1 kV1 dc1 pm1 cd1 ct1 oc2 kV2 dc2 pm2 cd2 ct2 oc3 kV3 dc3 pm3 cd3 ct3 oc4 kV4 dc4 pm4 cd4 ct4 oc5 kV5 dc5 pm5 cd5 ct5 oc6 kV6 dc6 pm6 cd6 ct6 oc7 kV7 dc7 pm7 cd7 ct7 oc8 kV8 dc8 pm8 cd8 ct8 oc9 kV9 dc9 pm9 cd9 ct9 oc10 kV10 dc10 pm10 cd10 ct10 oc11 kV11 dc11 pm11 cd11 ct11 oc12 kV12 dc12 pm12 cd12 ct12 oc13 kV13 dc13 pm13 cd13 ct13 oc14 kV14 dc14 pm14 cd14 ct14 oc15 kV15 dc15 pm15 cd15 ct15 oc16 kV16 dc16 pm16 cd16 ct16 oc17 kV17 dc17 pm17 cd17 ct17 oc18 kV18 dc18 pm18 cd18 ct18 oc19 kV19 dc19 pm19 cd19 ct19 oc20 kV20 dc20 pm20 cd20 ct20 : Value}
    (a1 : PySem.W.nsIn K mainGlobals "tidy" = some (some (.ref f1))) (l1 : K.lookup f1 = some ⟨oc1, od1, .func (PySem.W.fnOf "tidy" "tidy" (defArgs s_tidy) (defBody s_tidy) (defScope s_tidy) .none kV1 dc1 pm1 an1 cd1 ct1), sl1⟩) (c1 : PySem.W.codeIn K cd1 "tidy" = true) (k1 : PySem.W.keepIn K (.ref f1) = true)
    (a2 : PySem.W.nsIn K mainGlobals "turned_down" = some (some (.ref f2))) (l2 : K.lookup f2 = some ⟨oc2, od2, .func (PySem.W.fnOf "turned_down" "turned_down" (defArgs s_turned_down) (defBody s_turned_down) (defScope s_turned_down) .none kV2 dc2 pm2 an2 cd2 ct2), sl2⟩) (c2 : PySem.W.codeIn K cd2 "turned_down" = true) (k2 : PySem.W.keepIn K (.ref f2) = true)
    (a3 : PySem.W.nsIn K mainGlobals "minus" = some (some (.ref f3))) (l3 : K.lookup f3 = some ⟨oc3, od3, .func (PySem.W.fnOf "minus" "minus" (defArgs s_minus) (defBody s_minus) (defScope s_minus) .none kV3 dc3 pm3 an3 cd3 ct3), sl3⟩) (c3 : PySem.W.codeIn K cd3 "minus" = true) (k3 : PySem.W.keepIn K (.ref f3) = true)
    (a4 : PySem.W.nsIn K mainGlobals "times" = some (some (.ref f4))) (l4 : K.lookup f4 = some ⟨oc4, od4, .func (PySem.W.fnOf "times" "times" (defArgs s_times) (defBody s_times) (defScope s_times) .none kV4 dc4 pm4 an4 cd4 ct4), sl4⟩) (c4 : PySem.W.codeIn K cd4 "times" = true) (k4 : PySem.W.keepIn K (.ref f4) = true)
    (a5 : PySem.W.nsIn K mainGlobals "parted" = some (some (.ref f5))) (l5 : K.lookup f5 = some ⟨oc5, od5, .func (PySem.W.fnOf "parted" "parted" (defArgs s_parted) (defBody s_parted) (defScope s_parted) .none kV5 dc5 pm5 an5 cd5 ct5), sl5⟩) (c5 : PySem.W.codeIn K cd5 "parted" = true) (k5 : PySem.W.keepIn K (.ref f5) = true)
    (a6 : PySem.W.nsIn K mainGlobals "_law_cell" = some (some (.ref f6))) (l6 : K.lookup f6 = some ⟨oc6, od6, .func (PySem.W.fnOf "_law_cell" "_law_cell" (defArgs s_law_cell) (defBody s_law_cell) (defScope s_law_cell) .none kV6 dc6 pm6 an6 cd6 ct6), sl6⟩) (c6 : PySem.W.codeIn K cd6 "_law_cell" = true) (k6 : PySem.W.keepIn K (.ref f6) = true)
    (a7 : PySem.W.nsIn K mainGlobals "_law_bag" = some (some (.ref f7))) (l7 : K.lookup f7 = some ⟨oc7, od7, .func (PySem.W.fnOf "_law_bag" "_law_bag" (defArgs s_law_bag) (defBody s_law_bag) (defScope s_law_bag) .none kV7 dc7 pm7 an7 cd7 ct7), sl7⟩) (c7 : PySem.W.codeIn K cd7 "_law_bag" = true) (k7 : PySem.W.keepIn K (.ref f7) = true)
    (a8 : PySem.W.nsIn K mainGlobals "_law_take" = some (some (.ref f8))) (l8 : K.lookup f8 = some ⟨oc8, od8, .func (PySem.W.fnOf "_law_take" "_law_take" (defArgs s_law_take) (defBody s_law_take) (defScope s_law_take) .none kV8 dc8 pm8 an8 cd8 ct8), sl8⟩) (c8 : PySem.W.codeIn K cd8 "_law_take" = true) (k8 : PySem.W.keepIn K (.ref f8) = true)
    (a9 : PySem.W.nsIn K mainGlobals "_law_whole" = some (some (.ref f9))) (l9 : K.lookup f9 = some ⟨oc9, od9, .func (PySem.W.fnOf "_law_whole" "_law_whole" (defArgs s_law_whole) (defBody s_law_whole) (defScope s_law_whole) .none kV9 dc9 pm9 an9 cd9 ct9), sl9⟩) (c9 : PySem.W.codeIn K cd9 "_law_whole" = true) (k9 : PySem.W.keepIn K (.ref f9) = true)
    (a10 : PySem.W.nsIn K mainGlobals "_law_is_sum" = some (some (.ref f10))) (l10 : K.lookup f10 = some ⟨oc10, od10, .func (PySem.W.fnOf "_law_is_sum" "_law_is_sum" (defArgs s_law_is_sum) (defBody s_law_is_sum) (defScope s_law_is_sum) .none kV10 dc10 pm10 an10 cd10 ct10), sl10⟩) (c10 : PySem.W.codeIn K cd10 "_law_is_sum" = true) (k10 : PySem.W.keepIn K (.ref f10) = true)
    (a11 : PySem.W.nsIn K mainGlobals "_law_summed" = some (some (.ref f11))) (l11 : K.lookup f11 = some ⟨oc11, od11, .func (PySem.W.fnOf "_law_summed" "_law_summed" (defArgs s_law_summed) (defBody s_law_summed) (defScope s_law_summed) .none kV11 dc11 pm11 an11 cd11 ct11), sl11⟩) (c11 : PySem.W.codeIn K cd11 "_law_summed" = true) (k11 : PySem.W.keepIn K (.ref f11) = true)
    (a12 : PySem.W.nsIn K mainGlobals "_law_product" = some (some (.ref f12))) (l12 : K.lookup f12 = some ⟨oc12, od12, .func (PySem.W.fnOf "_law_product" "_law_product" (defArgs s_law_product) (defBody s_law_product) (defScope s_law_product) .none kV12 dc12 pm12 an12 cd12 ct12), sl12⟩) (c12 : PySem.W.codeIn K cd12 "_law_product" = true) (k12 : PySem.W.keepIn K (.ref f12) = true)
    (a13 : PySem.W.nsIn K mainGlobals "_law_kind" = some (some (.ref f13))) (l13 : K.lookup f13 = some ⟨oc13, od13, .func (PySem.W.fnOf "_law_kind" "_law_kind" (defArgs s_law_kind) (defBody s_law_kind) (defScope s_law_kind) .none kV13 dc13 pm13 an13 cd13 ct13), sl13⟩) (c13 : PySem.W.codeIn K cd13 "_law_kind" = true) (k13 : PySem.W.keepIn K (.ref f13) = true)
    (a14 : PySem.W.nsIn K mainGlobals "_law_some" = some (some (.ref f14))) (l14 : K.lookup f14 = some ⟨oc14, od14, .func (PySem.W.fnOf "_law_some" "_law_some" (defArgs s_law_some) (defBody s_law_some) (defScope s_law_some) .none kV14 dc14 pm14 an14 cd14 ct14), sl14⟩) (c14 : PySem.W.codeIn K cd14 "_law_some" = true) (k14 : PySem.W.keepIn K (.ref f14) = true)
    (a15 : PySem.W.nsIn K mainGlobals "_law_upward" = some (some (.ref f15))) (l15 : K.lookup f15 = some ⟨oc15, od15, .func (PySem.W.fnOf "_law_upward" "_law_upward" (defArgs s_law_upward) (defBody s_law_upward) (defScope s_law_upward) .none kV15 dc15 pm15 an15 cd15 ct15), sl15⟩) (c15 : PySem.W.codeIn K cd15 "_law_upward" = true) (k15 : PySem.W.keepIn K (.ref f15) = true)
    (a16 : PySem.W.nsIn K mainGlobals "_law_said" = some (some (.ref f16))) (l16 : K.lookup f16 = some ⟨oc16, od16, .func (PySem.W.fnOf "_law_said" "_law_said" (defArgs s_law_said) (defBody s_law_said) (defScope s_law_said) .none kV16 dc16 pm16 an16 cd16 ct16), sl16⟩) (c16 : PySem.W.codeIn K cd16 "_law_said" = true) (k16 : PySem.W.keepIn K (.ref f16) = true)
    (a17 : PySem.W.nsIn K mainGlobals "_law_right" = some (some (.ref f17))) (l17 : K.lookup f17 = some ⟨oc17, od17, .func (PySem.W.fnOf "_law_right" "_law_right" (defArgs s_law_right) (defBody s_law_right) (defScope s_law_right) .none kV17 dc17 pm17 an17 cd17 ct17), sl17⟩) (c17 : PySem.W.codeIn K cd17 "_law_right" = true) (k17 : PySem.W.keepIn K (.ref f17) = true)
    (a18 : PySem.W.nsIn K mainGlobals "_law_long_row" = some (some (.ref f18))) (l18 : K.lookup f18 = some ⟨oc18, od18, .func (PySem.W.fnOf "_law_long_row" "_law_long_row" (defArgs s_law_long_row) (defBody s_law_long_row) (defScope s_law_long_row) .none kV18 dc18 pm18 an18 cd18 ct18), sl18⟩) (c18 : PySem.W.codeIn K cd18 "_law_long_row" = true) (k18 : PySem.W.keepIn K (.ref f18) = true)
    (a19 : PySem.W.nsIn K mainGlobals "_law_many" = some (some (.ref f19))) (l19 : K.lookup f19 = some ⟨oc19, od19, .func (PySem.W.fnOf "_law_many" "_law_many" (defArgs s_law_many) (defBody s_law_many) (defScope s_law_many) .none kV19 dc19 pm19 an19 cd19 ct19), sl19⟩) (c19 : PySem.W.codeIn K cd19 "_law_many" = true) (k19 : PySem.W.keepIn K (.ref f19) = true)
    (a20 : PySem.W.nsIn K mainGlobals "law" = some (some (.ref f20))) (l20 : K.lookup f20 = some ⟨oc20, od20, .func (PySem.W.fnOf "law" "law" (defArgs s_law) (defBody s_law) (defScope s_law) .none kV20 dc20 pm20 an20 cd20 ct20), sl20⟩) (c20 : PySem.W.codeIn K cd20 "law" = true) (k20 : PySem.W.keepIn K (.ref f20) = true)
    (z_len : PySem.W.nsIn K mainGlobals "len" = some none)
    (z_abs : PySem.W.nsIn K mainGlobals "abs" = some none)
    (z_min : PySem.W.nsIn K mainGlobals "min" = some none)
    (z_max : PySem.W.nsIn K mainGlobals "max" = some none)
    (z_int : PySem.W.nsIn K mainGlobals "int" = some none)
    (z_str : PySem.W.nsIn K mainGlobals "str" = some none)
    (z_list : PySem.W.nsIn K mainGlobals "list" = some none)
    (z_tuple : PySem.W.nsIn K mainGlobals "tuple" = some none)
    (z_sum : PySem.W.nsIn K mainGlobals "sum" = some none)
    (z_all : PySem.W.nsIn K mainGlobals "all" = some none)
    (z_any : PySem.W.nsIn K mainGlobals "any" = some none)
    (z_sorted : PySem.W.nsIn K mainGlobals "sorted" = some none)
    (z_bool : PySem.W.nsIn K mainGlobals "bool" = some none)
    (z_isinstance : PySem.W.nsIn K mainGlobals "isinstance" = some none)
    (z_range : PySem.W.nsIn K mainGlobals "range" = some none)
    (z_enumerate : PySem.W.nsIn K mainGlobals "enumerate" = some none)
    (z_zip : PySem.W.nsIn K mainGlobals "zip" = some none)
    (z_reversed : PySem.W.nsIn K mainGlobals "reversed" = some none)
    (z_set : PySem.W.nsIn K mainGlobals "set" = some none)
    (z_dict : PySem.W.nsIn K mainGlobals "dict" = some none)
    {C1 C2 : Addr}
    (ea1 : PySem.W.nsIn K mainGlobals "NoPart" = some (some (.ref C1))) (eb1 : PySem.W.excIn K C1 [.type "ValueError", .type "Exception", .type "BaseException", .type "object"] "ValueError.__new__" = true) (ec1 : PySem.W.keepIn K (.ref C1) = true) (ed1 : PySem.W.subIn K (.ref C1) (.type "BaseException") = some true) (ee1 : PySem.W.typeIn K (.ref C1) = some (.type "type")) (eg1 : PySem.W.isClsIn K C1 = true) (eh1 : PySem.W.subIn K (.ref C1) (.ref C1) = some true)
    (ea2 : PySem.W.nsIn K mainGlobals "RookError" = some (some (.ref C2))) (eb2 : PySem.W.excIn K C2 [.type "ValueError", .type "Exception", .type "BaseException", .type "object"] "ValueError.__new__" = true) (ec2 : PySem.W.keepIn K (.ref C2) = true) (ed2 : PySem.W.subIn K (.ref C2) (.type "BaseException") = some true) (ee2 : PySem.W.typeIn K (.ref C2) = some (.type "type")) (eg2 : PySem.W.isClsIn K C2 = true) (eh2 : PySem.W.subIn K (.ref C2) (.ref C2) = some true)
    {G1 G2 G3 G4 G5 G6 G7 G8 : Addr}
    (ga_NoSquare : PySem.W.nsIn K mainGlobals "NoSquare" = some (some (.ref G1))) (gi_NoSquare : PySem.W.isClsIn K G1 = true) (gt_NoSquare : PySem.W.typeIn K (.ref G1) = some (.type "type"))
    (ga_NoMove : PySem.W.nsIn K mainGlobals "NoMove" = some (some (.ref G2))) (gi_NoMove : PySem.W.isClsIn K G2 = true) (gt_NoMove : PySem.W.typeIn K (.ref G2) = some (.type "type"))
    (ga_TooMany : PySem.W.nsIn K mainGlobals "TooMany" = some (some (.ref G3))) (gi_TooMany : PySem.W.isClsIn K G3 = true) (gt_TooMany : PySem.W.typeIn K (.ref G3) = some (.type "type"))
    (ga_NotOne : PySem.W.nsIn K mainGlobals "NotOne" = some (some (.ref G4))) (gi_NotOne : PySem.W.isClsIn K G4 = true) (gt_NotOne : PySem.W.typeIn K (.ref G4) = some (.type "type"))
    (ga_NoPaper : PySem.W.nsIn K mainGlobals "NoPaper" = some (some (.ref G5))) (gi_NoPaper : PySem.W.isClsIn K G5 = true) (gt_NoPaper : PySem.W.typeIn K (.ref G5) = some (.type "type"))
    (ga_NoText : PySem.W.nsIn K mainGlobals "NoText" = some (some (.ref G6))) (gi_NoText : PySem.W.isClsIn K G6 = true) (gt_NoText : PySem.W.typeIn K (.ref G6) = some (.type "type"))
    (ga_NoRow : PySem.W.nsIn K mainGlobals "NoRow" = some (some (.ref G7))) (gi_NoRow : PySem.W.isClsIn K G7 = true) (gt_NoRow : PySem.W.typeIn K (.ref G7) = some (.type "type"))
    (ga_NoStep : PySem.W.nsIn K mainGlobals "NoStep" = some (some (.ref G8))) (gi_NoStep : PySem.W.isClsIn K G8 = true) (gt_NoStep : PySem.W.typeIn K (.ref G8) = some (.type "type"))
    (gvn : PySem.W.nsIn K mainGlobals "ValueError" = some none)
    (gs_NoSquare : PySem.W.subIn K (.ref C1) (.ref G1) = some false)
    (gs_NoMove : PySem.W.subIn K (.ref C1) (.ref G2) = some false)
    (gs_TooMany : PySem.W.subIn K (.ref C1) (.ref G3) = some false)
    (gs_NoPart : PySem.W.subIn K (.ref C1) (.ref C1) = some true)
    (gs_NotOne : PySem.W.subIn K (.ref C1) (.ref G4) = some false)
    (gs_NoPaper : PySem.W.subIn K (.ref C1) (.ref G5) = some false)
    (gs_NoText : PySem.W.subIn K (.ref C1) (.ref G6) = some false)
    (gs_NoRow : PySem.W.subIn K (.ref C1) (.ref G7) = some false)
    (gs_NoStep : PySem.W.subIn K (.ref C1) (.ref G8) = some false)
    (gv : PySem.W.subIn K (.ref C1) (.type "ValueError") = some true)
    (q1 : PySem.W.findIn K (.ref C1) "__getattribute__" = some (some (.builtin "BaseException.__getattribute__"))) (q2 : PySem.W.findIn K (.ref C1) "__getattr__" = some none) (q3 : PySem.W.hasDictIn K C1 = true) (q4 : PySem.W.findIn K (.ref C1) "__class__" = some (some (.builtin "object.__class__"))) (q5 : PySem.W.specialIn K (.builtin "object.__class__") "__get__" = some (some (.builtin "getset_descriptor.__get__"))) (q6 : PySem.W.takesIn K (.builtin "object.__class__") = some true) (q7 : PySem.W.mroIn K C1 (.type "object") = some true)
    (gsc_NoPart_RookError : PySem.W.subIn K (.ref C1) (.ref C2) = some true)
    (nL : noL K = true)
    : ∃ fd : FuncData, (∀ (s : Shared) (v : Value), BindsTo s fd ⟨[v], []⟩ [("_law_script", v)]) ∧ ∀ base : Heap, K.In base → base.Ns mainGlobals mg → FnOk l.prog w K mg base (L2N.CX l.prog w) 6 fa fd ["_law_script"] (spOf K (fun _ => .none) 1 (noEx f_law)) := by
  have e := hfa.symm.trans (PySem.W.mg_of X G a20)
  cases e
  have hb : ∀ b ∈ blts, mg (Str.ofString b) = none := by
    intro b hb
    unfold blts at hb
    simp only [List.mem_cons, List.not_mem_nil, or_false] at hb
    rcases hb with rfl | rfl | rfl | rfl | rfl | rfl | rfl | rfl | rfl | rfl | rfl | rfl | rfl | rfl | rfl | rfl | rfl | rfl | rfl | rfl
    · exact PySem.W.mg_none_of X G z_len
    · exact PySem.W.mg_none_of X G z_abs
    · exact PySem.W.mg_none_of X G z_min
    · exact PySem.W.mg_none_of X G z_max
    · exact PySem.W.mg_none_of X G z_int
    · exact PySem.W.mg_none_of X G z_str
    · exact PySem.W.mg_none_of X G z_list
    · exact PySem.W.mg_none_of X G z_tuple
    · exact PySem.W.mg_none_of X G z_sum
    · exact PySem.W.mg_none_of X G z_all
    · exact PySem.W.mg_none_of X G z_any
    · exact PySem.W.mg_none_of X G z_sorted
    · exact PySem.W.mg_none_of X G z_bool
    · exact PySem.W.mg_none_of X G z_isinstance
    · exact PySem.W.mg_none_of X G z_range
    · exact PySem.W.mg_none_of X G z_enumerate
    · exact PySem.W.mg_none_of X G z_zip
    · exact PySem.W.mg_none_of X G z_reversed
    · exact PySem.W.mg_none_of X G z_set
    · exact PySem.W.mg_none_of X G z_dict
  refine ⟨PySem.W.fnOf "law" "law" (defArgs s_law) (defBody s_law) (defScope s_law) .none kV20 dc20 pm20 an20 cd20 ct20, fun s v => .of_eq rfl, fun base _ _ => ?_⟩
  have ef1 := exm_own ed1 eg1 ee1 eh1
  have R1 : RaiseOk K mg "NoPart" ((fun s => if s = "NoPart" then .ref C1 else if s = "RookError" then .ref C2 else .none) "NoPart") := ⟨C1, rfl, PySem.W.mg_of X G ea1, eb1, ec1, ed1, ee1⟩
  have ef2 := exm_own ed2 eg2 ee2 eh2
  have R2 : RaiseOk K mg "RookError" ((fun s => if s = "NoPart" then .ref C1 else if s = "RookError" then .ref C2 else .none) "RookError") := ⟨C2, rfl, PySem.W.mg_of X G ea2, eb2, ec2, ed2, ee2⟩
  have QQ : QF K mg C1 (fun s => decide (s ∈ ["NoPart", "RookError"])) ["NoSquare", "NoMove", "TooMany", "NoPart", "NotOne", "NoPaper", "NoText", "NoRow", "NoStep"] := ⟨⟨q1, q2, ed1, q3, q4, q5, q6, q7⟩, hb "isinstance" (by decide), fun c hc => by
    simp only [List.mem_cons, List.not_mem_nil, or_false] at hc
    rcases hc with rfl | rfl | rfl | rfl | rfl | rfl | rfl | rfl | rfl
    · exact ⟨_, PySem.W.mg_of X G ga_NoSquare, kit_own gi_NoSquare gt_NoSquare gs_NoSquare eh1⟩
    · exact ⟨_, PySem.W.mg_of X G ga_NoMove, kit_own gi_NoMove gt_NoMove gs_NoMove eh1⟩
    · exact ⟨_, PySem.W.mg_of X G ga_TooMany, kit_own gi_TooMany gt_TooMany gs_TooMany eh1⟩
    · exact ⟨_, PySem.W.mg_of X G ea1, kit_own eg1 ee1 gs_NoPart eh1⟩
    · exact ⟨_, PySem.W.mg_of X G ga_NotOne, kit_own gi_NotOne gt_NotOne gs_NotOne eh1⟩
    · exact ⟨_, PySem.W.mg_of X G ga_NoPaper, kit_own gi_NoPaper gt_NoPaper gs_NoPaper eh1⟩
    · exact ⟨_, PySem.W.mg_of X G ga_NoText, kit_own gi_NoText gt_NoText gs_NoText eh1⟩
    · exact ⟨_, PySem.W.mg_of X G ga_NoRow, kit_own gi_NoRow gt_NoRow gs_NoRow eh1⟩
    · exact ⟨_, PySem.W.mg_of X G ga_NoStep, kit_own gi_NoStep gt_NoStep gs_NoStep eh1⟩
    , PySem.W.mg_none_of X G gvn, kit_VE gv⟩
  have F1 := fun_mk (st := s_tidy) l1 c1 k1
  have B1 := F1.binds (ps := p_tidy) fun _ _ _ _ _ _ us hl => match us, hl with | [_], _ => rfl
  have H_tidy : Has l.prog w K mg base (fun s => if s = "NoPart" then .ref C1 else if s = "RookError" then .ref C2 else .none) 1 "tidy" f_tidy := def_ok (N := n_tidy) (ps := p_tidy) (k := 0) (cl := c_tidy) (fu := 100000) (body := b_tidy) F1 B1 (PySem.W.mg_of X G a1) sc_tidy (env0 hb nL) k_tidy
  have F2 := fun_mk (st := s_turned_down) l2 c2 k2
  have B2 := F2.binds (ps := p_turned_down) fun _ _ _ _ _ _ us hl => match us, hl with | [_], _ => rfl
  have H_turned_down : Has l.prog w K mg base (fun s => if s = "NoPart" then .ref C1 else if s = "RookError" then .ref C2 else .none) 1 "turned_down" f_turned_down := def_ok (N := n_turned_down) (ps := p_turned_down) (k := 0) (cl := c_turned_down) (fu := 100000) (body := b_turned_down) F2 B2 (PySem.W.mg_of X G a2) sc_turned_down (env0 hb nL) k_turned_down
  have F3 := fun_mk (st := s_minus) l3 c3 k3
  have B3 := F3.binds (ps := p_minus) fun _ _ _ _ _ _ us hl => match us, hl with | [_, _], _ => rfl
  have H_minus : Has l.prog w K mg base (fun s => if s = "NoPart" then .ref C1 else if s = "RookError" then .ref C2 else .none) 2 "minus" f_minus := def_ok (N := n_minus) (ps := p_minus) (k := 1) (cl := c_minus) (fu := 100000) (body := b_minus) F3 B3 (PySem.W.mg_of X G a3) sc_minus (envS (H_tidy.mono (by decide)) (envS (H_turned_down.mono (by decide)) (env0 hb nL))) k_minus
  have F4 := fun_mk (st := s_times) l4 c4 k4
  have B4 := F4.binds (ps := p_times) fun _ _ _ _ _ _ us hl => match us, hl with | [_, _], _ => rfl
  have H_times : Has l.prog w K mg base (fun s => if s = "NoPart" then .ref C1 else if s = "RookError" then .ref C2 else .none) 2 "times" f_times := def_ok (N := n_times) (ps := p_times) (k := 1) (cl := c_times) (fu := 100000) (body := b_times) F4 B4 (PySem.W.mg_of X G a4) sc_times (envS (H_tidy.mono (by decide)) (env0 hb nL)) k_times
  have F5 := fun_mk (st := s_parted) l5 c5 k5
  have B5 := F5.binds (ps := p_parted) fun _ _ _ _ _ _ us hl => match us, hl with | [_, _], _ => rfl
  have H_parted : Has l.prog w K mg base (fun s => if s = "NoPart" then .ref C1 else if s = "RookError" then .ref C2 else .none) 3 "parted" f_parted := def_ok (N := n_parted) (ps := p_parted) (k := 2) (cl := c_parted) (fu := 100000) (body := b_parted) F5 B5 (PySem.W.mg_of X G a5) sc_parted (envS (H_minus.mono (by decide)) (envS (H_times.mono (by decide)) (env0 hb nL))) k_parted (hrs := fun c hc => by
      have hc : c ∈ ["NoPart"] := hc
      simp only [List.mem_cons, List.not_mem_nil, or_false] at hc
      rcases hc with rfl
      · exact R1)
  have F6 := fun_mk (st := s_law_cell) l6 c6 k6
  have B6 := F6.binds (ps := p_law_cell) fun _ _ _ _ _ _ us hl => match us, hl with | [_, _], _ => rfl
  have H_law_cell : Has l.prog w K mg base (fun s => if s = "NoPart" then .ref C1 else if s = "RookError" then .ref C2 else .none) 1 "_law_cell" f_law_cell := def_ok (N := n_law_cell) (ps := p_law_cell) (k := 0) (cl := c_law_cell) (fu := 100000) (body := b_law_cell) F6 B6 (PySem.W.mg_of X G a6) sc_law_cell (env0 hb nL) k_law_cell
  have F7 := fun_mk (st := s_law_bag) l7 c7 k7
  have B7 := F7.binds (ps := p_law_bag) fun _ _ _ _ _ _ us hl => match us, hl with | [_, _], _ => rfl
  have H_law_bag : Has l.prog w K mg base (fun s => if s = "NoPart" then .ref C1 else if s = "RookError" then .ref C2 else .none) 2 "_law_bag" f_law_bag := def_ok (N := n_law_bag) (ps := p_law_bag) (k := 1) (cl := c_law_bag) (fu := 100000) (body := b_law_bag) F7 B7 (PySem.W.mg_of X G a7) sc_law_bag (envS (H_law_cell.mono (by decide)) (env0 hb nL)) k_law_bag
  have F8 := fun_mk (st := s_law_take) l8 c8 k8
  have B8 := F8.binds (ps := p_law_take) fun _ _ _ _ _ _ us hl => match us, hl with | [_, _], _ => rfl
  have H_law_take : Has l.prog w K mg base (fun s => if s = "NoPart" then .ref C1 else if s = "RookError" then .ref C2 else .none) 1 "_law_take" f_law_take := def_ok (N := n_law_take) (ps := p_law_take) (k := 0) (cl := c_law_take) (fu := 100000) (body := b_law_take) F8 B8 (PySem.W.mg_of X G a8) sc_law_take (env0 hb nL) k_law_take
  have F9 := fun_mk (st := s_law_whole) l9 c9 k9
  have B9 := F9.binds (ps := p_law_whole) fun _ _ _ _ _ _ us hl => match us, hl with | [_], _ => rfl
  have H_law_whole : Has l.prog w K mg base (fun s => if s = "NoPart" then .ref C1 else if s = "RookError" then .ref C2 else .none) 1 "_law_whole" f_law_whole := def_ok (N := n_law_whole) (ps := p_law_whole) (k := 0) (cl := c_law_whole) (fu := 100000) (body := b_law_whole) F9 B9 (PySem.W.mg_of X G a9) sc_law_whole (env0 hb nL) k_law_whole
  have F10 := fun_mk (st := s_law_is_sum) l10 c10 k10
  have B10 := F10.binds (ps := p_law_is_sum) fun _ _ _ _ _ _ us hl => match us, hl with | [_], _ => rfl
  have H_law_is_sum : Has l.prog w K mg base (fun s => if s = "NoPart" then .ref C1 else if s = "RookError" then .ref C2 else .none) 2 "_law_is_sum" f_law_is_sum := def_ok (N := n_law_is_sum) (ps := p_law_is_sum) (k := 1) (cl := c_law_is_sum) (fu := 100000) (body := b_law_is_sum) F10 B10 (PySem.W.mg_of X G a10) sc_law_is_sum (envS (H_law_whole.mono (by decide)) (env0 hb nL)) k_law_is_sum
  have F11 := fun_mk (st := s_law_summed) l11 c11 k11
  have B11 := F11.binds (ps := p_law_summed) fun _ _ _ _ _ _ us hl => match us, hl with | [_], _ => rfl
  have H_law_summed : Has l.prog w K mg base (fun s => if s = "NoPart" then .ref C1 else if s = "RookError" then .ref C2 else .none) 1 "_law_summed" f_law_summed := def_ok (N := n_law_summed) (ps := p_law_summed) (k := 0) (cl := c_law_summed) (fu := 100000) (body := b_law_summed) F11 B11 (PySem.W.mg_of X G a11) sc_law_summed (env0 hb nL) k_law_summed
  have F12 := fun_mk (st := s_law_product) l12 c12 k12
  have B12 := F12.binds (ps := p_law_product) fun _ _ _ _ _ _ us hl => match us, hl with | [_, _], _ => rfl
  have H_law_product : Has l.prog w K mg base (fun s => if s = "NoPart" then .ref C1 else if s = "RookError" then .ref C2 else .none) 2 "_law_product" f_law_product := def_ok (N := n_law_product) (ps := p_law_product) (k := 1) (cl := c_law_product) (fu := 100000) (body := b_law_product) F12 B12 (PySem.W.mg_of X G a12) sc_law_product (envS (H_law_summed.mono (by decide)) (env0 hb nL)) k_law_product
  have F13 := fun_mk (st := s_law_kind) l13 c13 k13
  have B13 := F13.binds (ps := p_law_kind) fun _ _ _ _ _ _ us hl => match us, hl with | [_], _ => rfl
  have H_law_kind : AskD l.prog w K mg base C1 1 "_law_kind" (.int 3) := def_askD (N := n_law_kind) (ps := p_law_kind) (qs := q_law_kind) (used := ["NoSquare", "NoMove", "TooMany", "NoPart", "NotOne", "NoPaper", "NoText", "NoRow", "NoStep"]) F13 B13 (PySem.W.mg_of X G a13) sc_law_kind QQ (hb "int" (by decide)) k_law_kind rfl (by decide) rfl rfl (by decide) (by decide +kernel)
  have F14 := fun_mk (st := s_law_some) l14 c14 k14
  have B14 := F14.binds (ps := p_law_some) fun _ _ _ _ _ _ us hl => match us, hl with | [_, _], _ => rfl
  have H_law_some : Has l.prog w K mg base (fun s => if s = "NoPart" then .ref C1 else if s = "RookError" then .ref C2 else .none) 2 "_law_some" f_law_some := def_ok (N := n_law_some) (ps := p_law_some) (k := 1) (cl := c_law_some) (fu := 100000) (body := b_law_some) F14 B14 (PySem.W.mg_of X G a14) sc_law_some (envS (H_law_summed.mono (by decide)) (envS (H_law_take.mono (by decide)) (env0 hb nL))) k_law_some
  have F15 := fun_mk (st := s_law_upward) l15 c15 k15
  have B15 := F15.binds (ps := p_law_upward) fun _ _ _ _ _ _ us hl => match us, hl with | [_, _], _ => rfl
  have H_law_upward : Has l.prog w K mg base (fun s => if s = "NoPart" then .ref C1 else if s = "RookError" then .ref C2 else .none) 1 "_law_upward" f_law_upward := def_ok (N := n_law_upward) (ps := p_law_upward) (k := 0) (cl := c_law_upward) (fu := 100000) (body := b_law_upward) F15 B15 (PySem.W.mg_of X G a15) sc_law_upward (env0 hb nL) k_law_upward
  have F16 := fun_mk (st := s_law_said) l16 c16 k16
  have B16 := F16.binds (ps := p_law_said) fun _ _ _ _ _ _ us hl => match us, hl with | [_, _], _ => rfl
  have H_law_said : Has l.prog w K mg base (fun s => if s = "NoPart" then .ref C1 else if s = "RookError" then .ref C2 else .none) 4 "_law_said" f_law_said := def_tryQ (N := n_law_said) (ps := p_law_said) (k := 3) (cl := c_law_said) (fu := 100000) (body := b_law_said) (qs := q_law_said) (used := ["NoSquare", "NoMove", "TooMany", "NoPart", "NotOne", "NoPaper", "NoText", "NoRow", "NoStep"]) (fs := ["_law_kind"]) F16 B16 (PySem.W.mg_of X G a16) sc_law_said (envS (H_parted.mono (by decide)) (env0 hb nL)) k_law_said (PySem.W.mg_of X G ea2) (hb "int" (by decide)) (fun s d h => by
      have h : (if s = "NoPart" then some (PyData.int 3) else none) = some d := h
      split at h
      · rename_i e
        subst e
        cases h
        refine ⟨C1, (fun s => decide (s ∈ ["NoPart", "RookError"])), (fun s => if s = "_law_kind" then some (PyData.int 3) else none), rfl, exm_own ed2 eg2 ee2 gsc_NoPart_RookError, QQ, by decide +kernel, fun g hg d2 hd2 => ?_⟩
        simp only [List.mem_cons, List.not_mem_nil, or_false] at hg
        rcases hg with rfl
        · obtain rfl : PyData.int 3 = d2 := by simpa using hd2
          exact H_law_kind.mono (by decide)
      · skip
        cases h) (by decide) rfl (by decide)
  have F17 := fun_mk (st := s_law_right) l17 c17 k17
  have B17 := F17.binds (ps := p_law_right) fun _ _ _ _ _ _ us hl => match us, hl with | [_, _], _ => rfl
  have H_law_right : Has l.prog w K mg base (fun s => if s = "NoPart" then .ref C1 else if s = "RookError" then .ref C2 else .none) 5 "_law_right" f_law_right := def_ok (N := n_law_right) (ps := p_law_right) (k := 4) (cl := c_law_right) (fu := 100000) (body := b_law_right) F17 B17 (PySem.W.mg_of X G a17) sc_law_right (envS (H_times.mono (by decide)) (envS (H_law_is_sum.mono (by decide)) (envS (H_law_said.mono (by decide)) (envS (H_law_upward.mono (by decide)) (env0 hb nL))))) k_law_right
  have F18 := fun_mk (st := s_law_long_row) l18 c18 k18
  have B18 := F18.binds (ps := p_law_long_row) fun _ _ _ _ _ _ us hl => match us, hl with | [_], _ => rfl
  have H_law_long_row : Has l.prog w K mg base (fun s => if s = "NoPart" then .ref C1 else if s = "RookError" then .ref C2 else .none) 2 "_law_long_row" f_law_long_row := def_ok (N := n_law_long_row) (ps := p_law_long_row) (k := 1) (cl := c_law_long_row) (fu := 100000) (body := b_law_long_row) F18 B18 (PySem.W.mg_of X G a18) sc_law_long_row (envS (H_law_take.mono (by decide)) (env0 hb nL)) k_law_long_row
  have F19 := fun_mk (st := s_law_many) l19 c19 k19
  have B19 := F19.binds (ps := p_law_many) fun _ _ _ _ _ _ us hl => match us, hl with | [_], _ => rfl
  have H_law_many : Has l.prog w K mg base (fun s => if s = "NoPart" then .ref C1 else if s = "RookError" then .ref C2 else .none) 2 "_law_many" f_law_many := def_ok (N := n_law_many) (ps := p_law_many) (k := 1) (cl := c_law_many) (fu := 100000) (body := b_law_many) F19 B19 (PySem.W.mg_of X G a19) sc_law_many (envS (H_law_take.mono (by decide)) (env0 hb nL)) k_law_many
  have F20 := fun_mk (st := s_law) l20 c20 k20
  exact fn_noEx (def_fn (cv := (fun s => if s = "NoPart" then .ref C1 else if s = "RookError" then .ref C2 else .none)) (N := n_law) (ps := p_law) (k := 5) (cl := c_law) (fu := 100000) (body := b_law) F20 sc_law (envS (H_law_right.mono (by decide)) (envS (H_law_some.mono (by decide)) (envS (H_law_summed.mono (by decide)) (envS (H_law_product.mono (by decide)) (envS (H_law_take.mono (by decide)) (envS (H_law_long_row.mono (by decide)) (envS (H_law_many.mono (by decide)) (envS (H_law_bag.mono (by decide)) (env0 hb nL))))))))) k_law)
end Lk61

open PySem PySem.W PyProof.Rows in
set_option maxRecDepth 100000 in
set_option maxHeartbeats 0 in
theorem PySem.Challenge.cw_rookborders_k61_sums_parted_holds : PySem.Challenge.rw_rookborders_k61_sums_parted.Holds := by
  w_on; o_law; k_head; (case hw => w_witness2)
  k_fill
  refine Rk.law_walk (l := PySem.Challenge.rw_rookborders_k61_sums_parted) (fn := (Rk.noEx Lk61.f_law)) (cv := fun _ => .none) (k := 6) rfl rfl ⟨rfl, by decide, by decide⟩ (Rk.law_noEx Lk61.law_true) (fun w h Y => PySem.W.kIn_of Y) ?F
  case F =>
    intro w mg fa h KX G hmg
    refine' Lk61.all_mk KX G hmg ?a1 ?l1 ?c1 ?k1 ?a2 ?l2 ?c2 ?k2 ?a3 ?l3 ?c3 ?k3 ?a4 ?l4 ?c4 ?k4 ?a5 ?l5 ?c5 ?k5 ?a6 ?l6 ?c6 ?k6 ?a7 ?l7 ?c7 ?k7 ?a8 ?l8 ?c8 ?k8 ?a9 ?l9 ?c9 ?k9 ?a10 ?l10 ?c10 ?k10 ?a11 ?l11 ?c11 ?k11 ?a12 ?l12 ?c12 ?k12 ?a13 ?l13 ?c13 ?k13 ?a14 ?l14 ?c14 ?k14 ?a15 ?l15 ?c15 ?k15 ?a16 ?l16 ?c16 ?k16 ?a17 ?l17 ?c17 ?k17 ?a18 ?l18 ?c18 ?k18 ?a19 ?l19 ?c19 ?k19 ?a20 ?l20 ?c20 ?k20 ?z_len ?z_abs ?z_min ?z_max ?z_int ?z_str ?z_list ?z_tuple ?z_sum ?z_all ?z_any ?z_sorted ?z_bool ?z_isinstance ?z_range ?z_enumerate ?z_zip ?z_reversed ?z_set ?z_dict ?ea1 ?eb1 ?ec1 ?ed1 ?ee1 ?eg1 ?eh1 ?ea2 ?eb2 ?ec2 ?ed2 ?ee2 ?eg2 ?eh2 ?ga_NoSquare ?ga_NoMove ?ga_TooMany ?ga_NotOne ?ga_NoPaper ?ga_NoText ?ga_NoRow ?ga_NoStep ?gi_NoSquare ?gi_NoMove ?gi_TooMany ?gi_NotOne ?gi_NoPaper ?gi_NoText ?gi_NoRow ?gi_NoStep ?gt_NoSquare ?gt_NoMove ?gt_TooMany ?gt_NotOne ?gt_NoPaper ?gt_NoText ?gt_NoRow ?gt_NoStep ?gvn ?gs_NoSquare ?gs_NoMove ?gs_TooMany ?gs_NoPart ?gs_NotOne ?gs_NoPaper ?gs_NoText ?gs_NoRow ?gs_NoStep ?gv ?q1 ?q2 ?q3 ?q4 ?q5 ?q6 ?q7 ?gsc_NoPart_RookError ?nL
    (case a1 => k_is)
    (case l1 => k_is)
    (case c1 => k_is)
    (case k1 => k_is)
    (case a2 => k_is)
    (case l2 => k_is)
    (case c2 => k_is)
    (case k2 => k_is)
    (case a3 => k_is)
    (case l3 => k_is)
    (case c3 => k_is)
    (case k3 => k_is)
    (case a4 => k_is)
    (case l4 => k_is)
    (case c4 => k_is)
    (case k4 => k_is)
    (case a5 => k_is)
    (case l5 => k_is)
    (case c5 => k_is)
    (case k5 => k_is)
    (case a6 => k_is)
    (case l6 => k_is)
    (case c6 => k_is)
    (case k6 => k_is)
    (case a7 => k_is)
    (case l7 => k_is)
    (case c7 => k_is)
    (case k7 => k_is)
    (case a8 => k_is)
    (case l8 => k_is)
    (case c8 => k_is)
    (case k8 => k_is)
    (case a9 => k_is)
    (case l9 => k_is)
    (case c9 => k_is)
    (case k9 => k_is)
    (case a10 => k_is)
    (case l10 => k_is)
    (case c10 => k_is)
    (case k10 => k_is)
    (case a11 => k_is)
    (case l11 => k_is)
    (case c11 => k_is)
    (case k11 => k_is)
    (case a12 => k_is)
    (case l12 => k_is)
    (case c12 => k_is)
    (case k12 => k_is)
    (case a13 => k_is)
    (case l13 => k_is)
    (case c13 => k_is)
    (case k13 => k_is)
    (case a14 => k_is)
    (case l14 => k_is)
    (case c14 => k_is)
    (case k14 => k_is)
    (case a15 => k_is)
    (case l15 => k_is)
    (case c15 => k_is)
    (case k15 => k_is)
    (case a16 => k_is)
    (case l16 => k_is)
    (case c16 => k_is)
    (case k16 => k_is)
    (case a17 => k_is)
    (case l17 => k_is)
    (case c17 => k_is)
    (case k17 => k_is)
    (case a18 => k_is)
    (case l18 => k_is)
    (case c18 => k_is)
    (case k18 => k_is)
    (case a19 => k_is)
    (case l19 => k_is)
    (case c19 => k_is)
    (case k19 => k_is)
    (case a20 => k_is)
    (case l20 => k_is)
    (case c20 => k_is)
    (case k20 => k_is)
    (case z_len => k_is)
    (case z_abs => k_is)
    (case z_min => k_is)
    (case z_max => k_is)
    (case z_int => k_is)
    (case z_str => k_is)
    (case z_list => k_is)
    (case z_tuple => k_is)
    (case z_sum => k_is)
    (case z_all => k_is)
    (case z_any => k_is)
    (case z_sorted => k_is)
    (case z_bool => k_is)
    (case z_isinstance => k_is)
    (case z_range => k_is)
    (case z_enumerate => k_is)
    (case z_zip => k_is)
    (case z_reversed => k_is)
    (case z_set => k_is)
    (case z_dict => k_is)
    (case ea1 => k_is)
    (case eb1 => k_exc)
    (case ec1 => k_is)
    (case ed1 => k_is)
    (case ee1 => k_is)
    (case eg1 => k_is)
    (case eh1 => first | k_is | rfl)
    (case ea2 => k_is)
    (case eb2 => k_exc)
    (case ec2 => k_is)
    (case ed2 => k_is)
    (case ee2 => k_is)
    (case eg2 => k_is)
    (case eh2 => first | k_is | rfl)
    (case ga_NoSquare => k_is)
    (case ga_NoMove => k_is)
    (case ga_TooMany => k_is)
    (case ga_NotOne => k_is)
    (case ga_NoPaper => k_is)
    (case ga_NoText => k_is)
    (case ga_NoRow => k_is)
    (case ga_NoStep => k_is)
    (case gi_NoSquare => k_is)
    (case gi_NoMove => k_is)
    (case gi_TooMany => k_is)
    (case gi_NotOne => k_is)
    (case gi_NoPaper => k_is)
    (case gi_NoText => k_is)
    (case gi_NoRow => k_is)
    (case gi_NoStep => k_is)
    (case gt_NoSquare => k_is)
    (case gt_NoMove => k_is)
    (case gt_TooMany => k_is)
    (case gt_NotOne => k_is)
    (case gt_NoPaper => k_is)
    (case gt_NoText => k_is)
    (case gt_NoRow => k_is)
    (case gt_NoStep => k_is)
    (case gvn => k_is)
    (case gs_NoSquare => first | k_is | rfl)
    (case gs_NoMove => first | k_is | rfl)
    (case gs_TooMany => first | k_is | rfl)
    (case gs_NoPart => first | k_is | rfl)
    (case gs_NotOne => first | k_is | rfl)
    (case gs_NoPaper => first | k_is | rfl)
    (case gs_NoText => first | k_is | rfl)
    (case gs_NoRow => first | k_is | rfl)
    (case gs_NoStep => first | k_is | rfl)
    (case gv => first | k_is | rfl)
    (case q1 => k_is)
    (case q2 => k_is)
    (case q3 => k_is)
    (case q4 => k_is)
    (case q5 => k_is)
    (case q6 => k_is)
    (case q7 => k_is)
    (case gsc_NoPart_RookError => first | k_is | rfl)
    (case nL => rfl)


