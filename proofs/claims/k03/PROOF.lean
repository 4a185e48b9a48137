import PyProof.Rows.All
import HandS.ForMost
import HandS.ForExc
import KE.SortData
import KE.DataMinMax
import KE.DataCmp
import HandS.Conv
import HandS.SortRule
import HandS.SortInts
import HandS.Wide
import HandS.TupMul
import HandS.TupAny
import HandS.TupLe
import HandS.Deep
import HandS.IsInst
import HandS.ExcIs
import HandS.Zip
import HandS.NoneIn
import HandS.RevTup
import HandS.DictComp
import HandS.Style
import HandS.ExcOwn
import HandS.TryMany
import HandS.SetFor
import KE.KIndexOf
import HandS.TupSets
import KE.DataFind
import KE.KStateDown
import HandS.Ends
import HandS.Words
import HandS.WordsExc
import HandS.Defaults
import HandS.Head0
import HandS.Head1
import HandS.Head2
import HandS.HeadEnd
import HandS.HeadHook1
import HandS.HeadHook2
import PySem.Challenge.RW_unpartedrows_k03_trees
set_option Elab.async false
set_option linter.all false
set_option maxRecDepth 100000
set_option maxHeartbeats 0
set_option Elab.async false
set_option linter.all false
namespace PC
open PySem
abbrev D := PyData
inductive R (α : Type) where
  | ok (a : α) | ex (c : Str) | st
def R.bind {α β : Type} : R α → (α → R β) → R β
  | .ok a, f => f a
  | .ex c, _ => .ex c
  | .st, _ => .st
/-- inside a block an exception may not leave -/
def R.calm {α : Type} : R α → R α
  | .ex _ => .st
  | r => r
/-- a slot: unassigned, an owned list or dict, a shared value, a caught exception -/
inductive Sl where
  | u | o (d : D) | f (d : D) | x (c : Str)
abbrev Env := List Sl
inductive Op where
  | add | sub | mul | div | mod | pow
inductive Cm where
  | eq | ne | lt | le | gt | ge | in_ | nin
inductive T where
  | n (i : Nat) | t (is : List Nat)
def T.ids : T → List Nat
  | .n i => [i]
  | .t is => is
inductive Bi where
  | len | int | abs | neg | min1 | max1 | min2 | max2 | sorted | tuple | list | sum | all | any | str | lenSet | sortSet
  | listR1 | listR2 | tupR1 | tupR2 | isInt | isStr | isBool | isTup | tix (l : List Str) | isNone | notNone | isB (b neg : Bool) | inC (l : List D) | ninC (l : List D)
inductive Mt where
  | index | count | join | split
mutual
inductive E where
  | v (i : Nat) | int (i : Int) | str (s : Str) | bl (b : Bool) | non
  | not (a : E) | and (a b : E) | or (a b : E)
  | op (o : Op) (a b : E)
  | cmp (a : E) (r : Cs)
  | tup (es : Es) | lst (es : Es)
  | ix (a b : E) | sl (a : E) (lo hi : Oe) | rev (a : E)
  | call (f : Str) (es : Es) | bi (b : Bi) (es : Es) | mth (m : Mt) (a b : E)
  | lc (own : List Nat) (t : T) (it : I) (c : Oe) (elt : E)
  | dc (own : List Nat) (t : T) (it : I) (k w : E)
  | dsp (es : Es)
  | isx (i : Nat) (c : Str)
inductive Es where
  | nil | cons (a : E) (r : Es)
inductive Cs where
  | one (c : Cm) (b : E) | more (c : Cm) (b : E) (r : Cs)
inductive Oe where
  | no | yes (a : E)
inductive I where
  | e (a : E) | r1 (a : E) | r2 (a b : E) | r3 (a b c : E) | en (a : E)
end
inductive S where
  | asg (t : T) (e : E)
  | par (i j : Nat) (a b : E)
  | aug (i : Nat) (o : Op) (e : E)
  | app (i : Nat) (e : E) | appPop (i j : Nat) (e : E) | popTo (i j : Nat) (e : Oe)
  | ext (i : Nat) (e : E) | rvs (i : Nat) | srt (i : Nat) | ins (i : Nat) (a b : E) | rem (i : Nat) (e : E)
  | setIx (i : Nat) (a b : E)
  | nat (n : Nat) (F : (Str → List D → R D) → List D → R D)
  | exp (e : E)
  | ite (c : E) (a b : List S)
  | for_ (t : T) (it : I) (b : List S)
  | whl (c : E) (b : List S)
  | ret (e : E) | retN | raise (c : Str) | brk | pas
  | prc (f : Str) (e : E) (i : Nat) | own (j : Nat) (b : List S)
  | try_ (b : List S) (ks : List Str) (c : Str) (n : Option Nat) (s : List S)
def asInts : List D → Option (List Int)
  | [] => some []
  | .int i :: r => (asInts r).map (i :: ·)
  | _ :: _ => none
def asBools : List D → Option (List Bool)
  | [] => some []
  | .bool b :: r => (asBools r).map (b :: ·)
  | _ :: _ => none
def insI (x : Int) : List Int → List Int
  | [] => [x]
  | y :: r => if x ≤ y then x :: y :: r else y :: insI x r
def isort : List Int → List Int
  | [] => []
  | x :: r => insI x (isort r)
def minL (x : Int) : List Int → Int
  | [] => x
  | y :: r => minL (if y < x then y else x) r
def maxL (x : Int) : List Int → Int
  | [] => x
  | y :: r => maxL (if y > x then y else x) r
def iota (lo : Int) : Nat → List Int
  | 0 => []
  | n + 1 => lo :: iota (lo + 1) n
mutual
/-- no dict within -/
def noD : D → Bool
  | .none | .bool _ | .int _ | .str _ => true
  | .list l | .tuple l => noDs l
  | .dict _ => false
def noDs : List D → Bool
  | [] => true
  | d :: r => noD d && noDs r
end
mutual
/-- no list, no dict within -/
def flat : D → Bool
  | .none | .bool _ | .int _ | .str _ => true
  | .tuple l => flatAll l
  | .list _ | .dict _ => false
def flatAll : List D → Bool
  | [] => true
  | d :: r => flat d && flatAll r
end
/-- no list, no dict within the values of a dict -/
def flatK : List (D × D) → Bool
  | [] => true
  | p :: r => flat p.2 && flatK r
def flt : R Bool → R D
  | .ok b => .ok (.bool b)
  | .ex c => .ex c
  | .st => .st
def ltD : D → D → R Bool
  | .int i, .int j => .ok (decide (i < j))
  | .tuple a, .tuple b => match asInts a, asInts b with
    | some ns, some ms => .ok (HT.lexLt ns ms)
    | _, _ => if W.alikeAll a b && W.alikeAll b a && decide (PyData.depthAll a ≤ 60) && decide (PyData.depthAll b ≤ 60) && (noDs a && noDs b) then .ok (W.dataLt (.tuple a) (.tuple b)) else .st
  | _, _ => .st
def sortOk (l : List D) : Bool := (l.all fun d => l.all fun e => W.alike d e) && ((l.all fun d => match d with | .tuple (_ :: _) => true | _ => false) || l.all fun d => match d with | .none => false | .tuple _ => false | _ => true) && decide (PyData.depthAll l ≤ 60)
def notR : R Bool → R Bool
  | .ok b => .ok (!b)
  | .ex c => .ex c
  | .st => .st
def scalD : D → D → Bool
  | .int _, .int _ => true
  | .bool _, .bool _ => true
  | .str _, .str _ => true
  | .none, .none => true
  | _, _ => false
def eqD (a b : D) : R Bool := if scalD a b || (SeqAt.shaped a && SeqAt.shaped b) then .ok (PyData.eqv a b) else .st
def lookD (k : D) : List (D × D) → Option D
  | [] => none
  | (a, v) :: r => if PyData.eqv a k then some v else lookD k r
def isKey : D → Bool
  | .int _ => true
  | .str _ => true
  | _ => false
/-- a tuple of ints, a key of another kind of dict -/
def isTKey : D → Bool
  | .tuple ds => ds.all fun d => match d with | .int _ => true | _ => false
  | _ => false
def noTK (kvs : List (D × D)) : Bool := kvs.all fun p => !isTKey p.1
def allTK (kvs : List (D × D)) : Bool := kvs.all fun p => isTKey p.1
def R.orR {α : Type} : R α → R α → R α
  | .st, y => y
  | x, _ => x
def inD (a b : D) : R Bool := match b with
  | .list l => if SeqAt.shaped a && SeqAt.shaped (.list l) then .ok (l.any fun z => PyData.eqv z a) else .st
  | .tuple l => if SeqAt.shaped a && SeqAt.shaped (.tuple l) then .ok (l.any fun z => PyData.eqv z a) else .st
  | .dict kvs => if isKey a && noTK kvs then .ok (lookD a kvs).isSome else if isTKey a && allTK kvs then .ok (lookD a kvs).isSome else .st
  | .str t => match a with
    | .str s => .ok (!(Builtin.Str.occurrences t s 0 t.length 1).isEmpty)
    | _ => .st
  | _ => .st
def evCm : Cm → D → D → R Bool
  | .eq, a, b => eqD a b
  | .ne, a, b => notR (eqD a b)
  | .lt, a, b => ltD a b
  | .le, a, b => notR (ltD b a)
  | .gt, a, b => ltD b a
  | .ge, a, b => notR (ltD a b)
  | .in_, a, b => inD a b
  | .nin, a, b => notR (inD a b)
def mulOk (i j : Int) : Bool := i.natAbs.ble 18446744073709551615 || j.natAbs.ble 18446744073709551615 || (i.natAbs.log2 + j.natAbs.log2).ble 999999
theorem mulOk_iff {i j : Int} (h : mulOk i j = true) : ((-(2 ^ 64) < i ∧ i < 2 ^ 64) ∨ (-(2 ^ 64) < j ∧ j < 2 ^ 64)) ∨ i.natAbs.log2 + j.natAbs.log2 < 1000000 := by
  simp only [mulOk, Bool.or_eq_true] at h
  rcases h with (h | h) | h
  · have := Nat.le_of_ble_eq_true h
    exact .inl (.inl (by omega))
  · have := Nat.le_of_ble_eq_true h
    exact .inl (.inr (by omega))
  · have := Nat.le_of_ble_eq_true h
    exact .inr (by omega)
def evOp : Op → D → D → R D
  | .add, .int i, .int j => .ok (.int (i + j))
  | .add, .str s, .str t => if s.length + t.length ≤ sizeLine then .ok (.str (s ++ t)) else .st
  | .add, .tuple a, .tuple b => if a.length + b.length ≤ sizeLine then .ok (.tuple (a ++ b)) else .st
  | .add, .list a, .list b => if a.length + b.length ≤ sizeLine then .ok (.list (a ++ b)) else .st
  | .sub, .int i, .int j => .ok (.int (i - j))
  | .mul, .int i, .int j => if mulOk i j then .ok (.int (i * j)) else .st
  | .mul, .list a, .int k => if 0 ≤ k ∧ k < 2 ^ 60 ∧ a.length * k.toNat ≤ sizeLine then .ok (.list (List.replicate k.toNat a).flatten) else .st
  | .mul, .tuple a, .int k => if 2 ≤ k ∧ k ≤ 1000 ∧ a.length ≤ 1000 then .ok (.tuple (List.replicate k.toNat a).flatten) else .st
  | .div, .int i, .int j => if 0 < j ∧ j.natAbs.log2 < 9000 then .ok (.int (i / j)) else .st
  | .mod, .int i, .int j => if 0 < j then .ok (.int (i % j)) else .st
  | .pow, .int i, .int j => if 0 ≤ j ∧ j ≤ 1000000 ∧ i.natAbs < 2 ^ 64 then .ok (.int (i ^ j.toNat)) else .st
  | _, _, _ => .st
def getAt (l : List D) (i : Int) : R D := match L2.atI l i with
  | some d => .ok d
  | none => .st
def evIx : D → D → R D
  | .list l, .int i => getAt l i
  | .tuple l, .int i => getAt l i
  | .dict kvs, k => if isKey k && noTK kvs then (match lookD k kvs with | some d => .ok d | none => .st) else .st
  | .str s, .int i => if s.length ≤ sizeLine then (match L2.atI s.cps.toList i with | some c => .ok (.str ⟨#[c]⟩) | none => .st) else .st
  | _, _ => .st
def cutD (l : List D) (lo hi : Option Int) : List D := (l.drop (HT.sIx l.length 0 lo)).take (HT.sIx l.length l.length hi - HT.sIx l.length 0 lo)
def evSl : D → Option Int → Option Int → R D
  | .list l, lo, hi => .ok (.list (cutD l lo hi))
  | .tuple l, lo, hi => .ok (.tuple (cutD l lo hi))
  | .str s, lo, hi => if s.length ≤ sizeLine then .ok (.str (L2.cutS s lo hi)) else .st
  | _, _, _ => .st
def rgOk (a b : Int) : Bool := a.natAbs.ble 1000000000000000000 && (b.natAbs.ble 1000000000000000000 && (b - a).toNat.ble 10000000)
def rgD (a b : Int) : List D := (iota a (b - a).toNat).map .int
def indexD (l : List D) (d : D) (k : Int) : Option Int := match l with
  | [] => none
  | z :: r => if PyData.eqv z d then some k else indexD r d (k + 1)
def strsOf : List D → Option (List Str)
  | [] => some []
  | .str s :: r => (strsOf r).map (s :: ·)
  | _ :: _ => none
def nodupI : List Int → List Int
  | [] => []
  | x :: r => if x ∈ r then nodupI r else x :: nodupI r
def asTups : List D → Option (List (List Int))
  | [] => some []
  | .tuple l :: r => match asInts l, asTups r with
    | some ns, some nss => some (ns :: nss)
    | _, _ => none
  | _ :: _ => none
/-- sorted, none twice -/
def insU (x : List Int) : List (List Int) → List (List Int)
  | [] => [x]
  | y :: r => if x < y then x :: y :: r else if x = y then y :: r else y :: insU x r
def usort : List (List Int) → List (List Int)
  | [] => []
  | x :: r => insU x (usort r)
def evBi : Bi → List D → R D
  | .len, [.list l] => .ok (.int l.length)
  | .len, [.tuple l] => .ok (.int l.length)
  | .len, [.str s] => if s.length ≤ sizeLine then .ok (.int s.length) else .st
  | .len, [.dict l] => if noTK l then .ok (.int l.length) else .st
  | .int, [.int i] => .ok (.int i)
  | .int, [.bool b] => .ok (.int (if b then 1 else 0))
  | .int, [.str s] => if s.length ≤ 640 then (match PySem.intText? s with | some n => .ok (.int n) | none => .st) else .st
  | .abs, [.int i] => .ok (.int (if i < 0 then -i else i))
  | .neg, [.int i] => .ok (.int (-i))
  | .min1, [.list l] => match asInts l with
    | some (x :: r) => .ok (.int (minL x r))
    | _ => match l with
      | x :: r => if sortOk (x :: r) then .ok (W.minD x r) else .st
      | [] => .st
  | .max1, [.list l] => match asInts l with
    | some (x :: r) => .ok (.int (maxL x r))
    | _ => .st
  | .min2, [.int i, .int j] => .ok (.int (if j < i then j else i))
  | .max2, [.int i, .int j] => .ok (.int (if j > i then j else i))
  | .sorted, [.list l] => match asInts l with
    | some ns => .ok (.list ((isort ns).map .int))
    | none => if sortOk l then .ok (.list (l.mergeSort (W.dataLe false id))) else .st
  | .sorted, [.tuple l] => match asInts l with
    | some ns => .ok (.list ((isort ns).map .int))
    | none => if sortOk l then .ok (.list (l.mergeSort (W.dataLe false id))) else .st
  | .tuple, [.list l] => .ok (.tuple l)
  | .tuple, [.tuple l] => .ok (.tuple l)
  | .list, [.list l] => .ok (.list l)
  | .list, [.tuple l] => .ok (.list l)
  | .sum, [.list l] => match asInts l with
    | some ns => .ok (.int ns.sum)
    | none => .st
  | .all, [.list l] => match asBools l with
    | some bs => .ok (.bool (bs.all id))
    | none => .st
  | .any, [.list l] => match asBools l with
    | some bs => .ok (.bool (bs.any id))
    | none => .st
  | .str, [.int i] => if i.natAbs.log2 < 1920 then .ok (.str (toString i)) else .st
  | .lenSet, [.tuple l] => match asInts l with
    | some ns => if ns.length ≤ 1000 then .ok (.int (nodupI ns).length) else .st
    | none => .st
  | .lenSet, [.list l] => match asInts l with
    | some ns => if ns.length ≤ 1000 then .ok (.int (nodupI ns).length) else .st
    | none => .st
  | .sortSet, [.list l] => match asTups l with
    | some nss => if nss.length < 64 ∧ nss.all (fun ns => !ns.isEmpty) = true then .ok (.list ((usort nss).map fun ns => .tuple (ns.map .int))) else .st
    | none => .st
  | .listR1, [.int n] => if rgOk 0 n then .ok (.list (rgD 0 n)) else .st
  | .listR2, [.int a, .int b] => if rgOk a b then .ok (.list (rgD a b)) else .st
  | .tupR1, [.int n] => if rgOk 0 n then .ok (.tuple (rgD 0 n)) else .st
  | .tupR2, [.int a, .int b] => if rgOk a b then .ok (.tuple (rgD a b)) else .st
  | .isInt, [d] => match d with
    | .int _ => .ok (.bool true)
    | .bool _ => .ok (.bool true)
    | .str _ => .ok (.bool false)
    | .list _ => .ok (.bool false)
    | .tuple _ => .ok (.bool false)
    | _ => .st
  | .isStr, [d] => match d with
    | .int _ => .ok (.bool false)
    | .str _ => .ok (.bool true)
    | .list _ => .ok (.bool false)
    | .tuple _ => .ok (.bool false)
    | _ => .st
  | .isBool, [d] => match d with
    | .bool _ => .ok (.bool true)
    | .int _ => .ok (.bool false)
    | .none => .ok (.bool false)
    | _ => .st
  | .isTup, [d] => match d with
    | .tuple _ => .ok (.bool true)
    | .bool _ => .ok (.bool false)
    | .int _ => .ok (.bool false)
    | .str _ => .ok (.bool false)
    | .list _ => .ok (.bool false)
    | .none => .ok (.bool false)
    | _ => .st
  | .tix ys, [.str s] => if s ∈ ys then .ok (.int (ys.idxOf s : Nat)) else .st
  | .isNone, [d] => .ok (.bool (match d with | .none => true | _ => false))
  | .notNone, [d] => .ok (.bool (match d with | .none => false | _ => true))
  | .isB b neg, [.bool c] => .ok (.bool (if neg then !decide (c = b) else decide (c = b)))
  | .inC l, [d] => if SeqAt.shaped d && SeqAt.shaped (.tuple l) then .ok (.bool (l.any fun z => PyData.eqv z d)) else .st
  | .ninC l, [d] => if SeqAt.shaped d && SeqAt.shaped (.tuple l) then .ok (.bool (!l.any fun z => PyData.eqv z d)) else .st
  | _, _ => .st
def mOk : Mt → D → Bool
  | .index, .list _ => true
  | .index, .tuple _ => true
  | .count, .list _ => true
  | .join, .str _ => true
  | .split, .str _ => true
  | _, _ => false
def evMt : Mt → D → D → R D
  | .index, .list l, d => if SeqAt.shaped (.list l) && SeqAt.shaped d then (match indexD l d 0 with | some k => .ok (.int k) | none => .st) else .st
  | .index, .tuple l, .int i => match asInts l with
    | some ns => if i ∈ ns then .ok (.int (ns.idxOf i : Nat)) else .st
    | none => .st
  | .count, .list l, .int i => match asInts l with
    | some ns => .ok (.int (ns.count i))
    | none => .st
  | .join, .str a, .list l => match strsOf l with
    | some ys => if (ys.map (·.length)).sum + ys.length * a.length ≤ 16777216 then .ok (.str (Txt.join a ys)) else .st
    | none => .st
  | .split, .str a, .str b => if (b.length == 0) = false ∧ a.length + 2 ≤ sizeLine ∧ (Txt.split a b).length ≤ sizeLine then .ok (.list ((Txt.split a b).map .str)) else .st
  | _, _, _ => .st
def rdS : Sl → R D
  | .o d => .ok d
  | .f d => .ok d
  | _ => .st
def geti : Env → Nat → Sl
  | [], _ => .u
  | s :: _, 0 => s
  | _ :: r, n + 1 => geti r n
def sets : Env → Nat → Sl → Env
  | [], _, _ => []
  | _ :: r, 0, x => x :: r
  | s :: r, n + 1, x => s :: sets r n x
def wipeS (env : Env) : List Nat → Env
  | [] => env
  | i :: r => sets (wipeS env r) i .u
def setsAll : Env → List Nat → List D → Option Env
  | env, [], [] => some env
  | env, i :: is, d :: ds => setsAll (sets env i (.f d)) is ds
  | _, _, _ => none
def asgT : T → D → Env → Option Env
  | .n i, d, env => some (sets env i (.f d))
  | .t is, .tuple ds, env => setsAll env is ds
  | .t is, .list ds, env => setsAll env is ds
  | .t _, _, _ => none
def compL (f : D → R (Option D)) : List D → R (List D)
  | [] => .ok []
  | d :: r => match f d with
    | .ok (some x) => match compL f r with
      | .ok l => .ok (x :: l)
      | _ => .st
    | .ok none => compL f r
    | _ => .st
def putD (k v : D) (l : List (D × D)) : List (D × D) := if (l.any fun p => PyData.eqv p.1 k) = true then l.map (fun p => if PyData.eqv p.1 k = true then (p.1, v) else p) else l ++ [(k, v)]
def pairsD : List D → Option (List (D × D))
  | [] => some []
  | k :: v :: r => if isKey k then (pairsD r).map ((k, v) :: ·) else none
  | [_] => none
def toB : R D → R Bool
  | .ok (.bool b) => .ok b
  | .ok _ => .st
  | .ex c => .ex c
  | .st => .st
def enumD (k : Int) : List D → List D
  | [] => []
  | d :: r => .tuple [.int k, d] :: enumD (k + 1) r
def seqD : D → R (List D)
  | .list l => .ok l
  | .tuple l => .ok l
  | _ => .st
/-- classes: what except C catches -/
abbrev Phi := Str → List D → R D
def subC (c d : Str) : Bool := c == d || d == ("UnpartedError" : Str) || d == ("ValueError" : Str)
mutual
def evE (Φ : Phi) : E → Env → R D
  | .v i, env => rdS (geti env i)
  | .int i, _ => .ok (.int i)
  | .str s, _ => .ok (.str s)
  | .bl b, _ => .ok (.bool b)
  | .non, _ => .ok .none
  | .not a, env => flt (notR (toB (evE Φ a env)))
  | .and a b, env => (toB (evE Φ a env)).bind fun c => if c then (toB (evE Φ b env)).bind fun e => .ok (.bool e) else .ok (.bool false)
  | .or a b, env => (toB (evE Φ a env)).bind fun c => if c then .ok (.bool true) else (toB (evE Φ b env)).bind fun e => .ok (.bool e)
  | .op o a b, env => (evE Φ a env).bind fun x => (evE Φ b env).bind fun y => evOp o x y
  | .cmp a r, env => (evE Φ a env).bind fun x => evC Φ r x env
  | .tup es, env => (evs Φ es env).bind fun l => .ok (.tuple l)
  | .lst es, env => (evs Φ es env).bind fun l => .ok (.list l)
  | .ix a b, env => (evE Φ a env).bind fun x => (evE Φ b env).bind fun y => evIx x y
  | .sl a lo hi, env => (evE Φ a env).bind fun x => (evO Φ lo env).bind fun i => (evO Φ hi env).bind fun j => evSl x i j
  | .rev a, env => (evE Φ a env).bind fun x => match x with
    | .list l => .ok (.list l.reverse)
    | .tuple l => .ok (.tuple l.reverse)
    | _ => .st
  | .call f es, env => (evs Φ es env).bind fun l => Φ f l
  | .bi b es, env => (evs Φ es env).bind fun l => evBi b l
  | .mth m a b, env => (evE Φ a env).bind fun x => if mOk m x then (evE Φ b env).bind fun y => evMt m x y else .st
  | .lc own t it c elt, env => (evI Φ it env).bind fun ds => (compL (fun d => match asgT t d (wipeS env own) with
    | none => .st
    | some env1 => match evT Φ c env1 with
      | .ok true => match evE Φ elt env1 with
        | .ok x => .ok (some x)
        | _ => .st
      | .ok false => .ok none
      | _ => .st) ds).bind fun l => .ok (.list l)
  | .dc own t it k w, env => (evI Φ it env).bind fun ds => (R.orR (compL (fun d => match asgT t d (wipeS env own) with
    | none => .st
    | some env1 => match evE Φ k env1 with
      | .ok x => if isKey x then (match evE Φ w env1 with
        | .ok y => .ok (some (.tuple [x, y]))
        | _ => .st) else .st
      | _ => .st) ds) (compL (fun d => match asgT t d (wipeS env own) with
    | none => .st
    | some env1 => match evE Φ k env1 with
      | .ok x => if isTKey x then (match evE Φ w env1 with
        | .ok y => .ok (some (.tuple [x, y]))
        | _ => .st) else .st
      | _ => .st) ds)).bind fun l => .ok (.dict (l.foldl (fun acc p => match p with | .tuple [x, y] => putD x y acc | _ => acc) []))
  | .dsp es, env => (evs Φ es env).bind fun l => match pairsD l with
    | some kvs => .ok (.dict (kvs.foldl (fun acc p => putD p.1 p.2 acc) []))
    | none => .st
  | .isx i c, env => match geti env i with
    | .x k => .ok (.bool (subC k c))
    | _ => .st
def evs (Φ : Phi) : Es → Env → R (List D)
  | .nil, _ => .ok []
  | .cons a r, env => (evE Φ a env).bind fun x => (evs Φ r env).bind fun l => .ok (x :: l)
def evC (Φ : Phi) : Cs → D → Env → R D
  | .one c b, x, env => (evE Φ b env).bind fun y => flt (evCm c x y)
  | .more c b r, x, env => (evE Φ b env).bind fun y => (evCm c x y).bind fun k => if k then evC Φ r y env else .ok (.bool false)
/-- a part of a slice -/
def evO (Φ : Phi) : Oe → Env → R (Option Int)
  | .no, _ => .ok none
  | .yes a, env => (evE Φ a env).bind fun x => match x with
    | .int i => .ok (some i)
    | _ => .st
/-- a comprehension's test -/
def evT (Φ : Phi) : Oe → Env → R Bool
  | .no, _ => .ok true
  | .yes a, env => toB (evE Φ a env)
def evI (Φ : Phi) : I → Env → R (List D)
  | .e a, env => (evE Φ a env).bind seqD
  | .r1 a, env => (evE Φ a env).bind fun x => match x with
    | .int n => if rgOk 0 n then .ok (rgD 0 n) else .st
    | _ => .st
  | .r2 a b, env => (evE Φ a env).bind fun x => (evE Φ b env).bind fun y => match x, y with
    | .int i, .int j => if rgOk i j then .ok (rgD i j) else .st
    | _, _ => .st
  | .r3 a b c, env => (evE Φ a env).bind fun x => (evE Φ b env).bind fun y => (evE Φ c env).bind fun z => match x, y, z with
    | .int i, .int j, .int k => if rgOk i j && rgOk j i && k == -1 then .ok ((iota 0 (i - j).toNat).map fun m => .int (i - m)) else .st
    | _, _, _ => .st
  | .en a, env => (evE Φ a env).bind fun x => match x with
    | .list l => .ok (enumD 0 l)
    | _ => .st
end
mutual
def E.vars : E → List Nat
  | .v i => [i]
  | .int _ | .str _ | .bl _ | .non => []
  | .not a => a.vars
  | .and a b => a.vars ++ b.vars
  | .or a b => a.vars ++ b.vars
  | .op _ a b => a.vars ++ b.vars
  | .cmp a r => a.vars ++ r.vars
  | .tup es => es.vars
  | .lst es => es.vars
  | .ix a b => a.vars ++ b.vars
  | .sl a lo hi => a.vars ++ (lo.vars ++ hi.vars)
  | .rev a => a.vars
  | .call _ es => es.vars
  | .bi _ es => es.vars
  | .mth _ a b => a.vars ++ b.vars
  | .lc _ _ it c elt => it.vars ++ (c.vars ++ elt.vars)
  | .dc _ _ it k w => it.vars ++ (k.vars ++ w.vars)
  | .dsp es => es.vars
  | .isx _ _ => []
def Es.vars : Es → List Nat
  | .nil => []
  | .cons a r => a.vars ++ r.vars
def Cs.vars : Cs → List Nat
  | .one _ b => b.vars
  | .more _ b r => b.vars ++ r.vars
def Oe.vars : Oe → List Nat
  | .no => []
  | .yes a => a.vars
def I.vars : I → List Nat
  | .e a => a.vars
  | .r1 a => a.vars
  | .r2 a b => a.vars ++ b.vars
  | .r3 a b c => a.vars ++ (b.vars ++ c.vars)
  | .en a => a.vars
end
/-- the value is a new list or dict, nobody else's -/
def E.fresh : E → Bool
  | .lst _ | .lc _ _ _ _ _ | .dsp _ | .dc _ _ _ _ _ => true
  | .bi .list (.cons _ .nil) | .bi .listR1 (.cons _ .nil) | .bi .listR2 (.cons _ (.cons _ .nil)) => true
  | _ => false
inductive Out where
  | nx (env : Env) | rt (d : D) | bk (env : Env) | ex (c : Str) (env : Env) | st
def frzS (vs : List Nat) : Nat → Env → Env
  | _, [] => []
  | k, .o d :: r => (if vs.contains k then .f d else .o d) :: frzS vs (k + 1) r
  | k, s :: r => s :: frzS vs (k + 1) r
/-- behind a value that may share the lists of vs -/
def shr (vs : List Nat) (d : D) (env : Env) : Env := if flat d then env else frzS vs 0 env
def putS (e : E) (i : Nat) (d : D) (env : Env) : Env := match e.fresh, d with
  | true, .list ds => sets (if flatAll ds then env else frzS e.vars 0 env) i (.o (.list ds))
  | true, .dict kvs => sets (if flatK kvs then env else frzS e.vars 0 env) i (.o (.dict kvs))
  | _, _ => sets (shr e.vars d env) i (.f d)
def evFor (body : Env → Out) (t : T) : List D → Env → Out
  | [], env => .nx env
  | d :: r, env => match asgT t d env with
    | none => .st
    | some env1 => match body env1 with
      | .nx env2 => evFor body t r env2
      | .bk env2 => .nx env2
      | o => o
def evWhl (cond : Env → R Bool) (body : Env → Out) : Nat → Env → Out
  | 0, _ => .st
  | n + 1, env => match cond env with
    | .ok true => match body env with
      | .nx env2 => evWhl cond body n env2
      | .bk env2 => .nx env2
      | o => o
    | .ok false => .nx env
    | .ex c => .ex c env
    | .st => .st
def onR {α : Type} (r : R α) (env : Env) (k : α → Out) : Out := match r with
  | .ok a => k a
  | .ex c => .ex c env
  | .st => .st
def I.val : I → Option E
  | .e a => some a
  | .en a => some a
  | _ => none
def frzI (it : I) (ds : List D) (env : Env) : Env := match it.val with
  | some a => frzS a.vars 0 env
  | none => env
def popAt (l : List D) (i : Int) : Option (D × List D) := match seqIndex? i l.length with
  | some k => if i.natAbs.ble 1000000000000000000 then (l[k]?).map fun d => (d, l.eraseIdx k) else none
  | none => none
def cap : Nat := 10000000
def augD : Op → Int → D → R D
  | .add, x, .int y => .ok (.int (x + y))
  | .sub, x, .int y => .ok (.int (x - y))
  | .mul, x, .int y => if mulOk x y then .ok (.int (x * y)) else .st
  | .div, x, .int y => if 0 < y ∧ y.natAbs.log2 < 9000 then .ok (.int (x / y)) else .st
  | _, _, _ => .st
def lstD : D → Option (List D)
  | .list l => some l
  | .tuple l => some l
  | _ => none
/-- the arguments, untouched -/
def argsD : Nat → Env → Option (List D)
  | 0, _ => some []
  | n + 1, .f d :: r => (argsD n r).map (d :: ·)
  | _ + 1, _ => none
mutual
def evS (Φ : Phi) (fu : Nat) : S → Env → Out
  | .asg (.n i) e, env => onR (evE Φ e env) env fun d => .nx (putS e i d env)
  | .asg (.t is) e, env => onR (evE Φ e env) env fun d => match asgT (.t is) d (shr e.vars d env) with
    | some env1 => .nx env1
    | none => .st
  | .par i j a b, env => onR (evE Φ a env) env fun x => onR (evE Φ b env) env fun y => if flat x && flat y then .nx (sets (sets env i (.f x)) j (.f y)) else .st
  | .aug i o e, env => match geti env i with
    | .f (.int x) => onR (evE Φ e env) env fun y => match augD o x y with
      | .ok (.int z) => .nx (sets env i (.f (.int z)))
      | _ => .st
    | _ => .st
  | .app i e, env => match geti env i with
    | .o (.list l) => onR (evE Φ e env) env fun d => match geti (shr e.vars d env) i with
      | .o _ => if l.length < cap then .nx (sets (shr e.vars d env) i (.o (.list (l ++ [d])))) else .st
      | _ => .st
    | _ => .st
  | .appPop i j e, env => match geti env i, geti env j with
    | .o (.list m), .o (.list l) => onR (evE Φ e env) env fun x => match x with
      | .int k => match popAt l k with
        | some (d, l') => if i ≠ j ∧ m.length < cap then .nx (sets (sets env j (.o (.list l'))) i (.o (.list (m ++ [d])))) else .st
        | none => .st
      | _ => .st
    | _, _ => .st
  | .popTo i j e, env => match e with
    | .yes a => onR (evE Φ a env) env fun x => match x, geti env j with
      | .int k, .o (.list l) => match popAt l k with
        | some (d, l') => .nx (sets (sets env j (.o (.list l'))) i (.f d))
        | none => .st
      | _, _ => .st
    | .no => match geti env j with
      | .o (.list l) => match popAt l (-1) with
        | some (d, l') => .nx (sets (sets env j (.o (.list l'))) i (.f d))
        | none => .st
      | _ => .st
  | .ext i e, env => match geti env i with
    | .o (.list l) => onR (evE Φ e env) env fun d => match lstD d with
      | some m => match geti (if flatAll m then env else frzS e.vars 0 env) i with
        | .o _ => if l.length + m.length < cap then .nx (sets (if flatAll m then env else frzS e.vars 0 env) i (.o (.list (l ++ m)))) else .st
        | _ => .st
      | none => .st
    | _ => .st
  | .rvs i, env => match geti env i with
    | .o (.list l) => .nx (sets env i (.o (.list l.reverse)))
    | _ => .st
  | .srt i, env => match geti env i with
    | .o (.list l) => match asInts l with
      | some ns => .nx (sets env i (.o (.list ((isort ns).map .int))))
      | none => .st
    | _ => .st
  | .ins i a b, env => match geti env i with
    | .o (.list l) => onR (evE Φ a env) env fun x => onR (evE Φ b env) env fun d => match x, geti (shr b.vars d env) i with
      | .int k, .o _ => if 0 ≤ k ∧ k ≤ l.length ∧ l.length < cap then .nx (sets (shr b.vars d env) i (.o (.list (l.take k.toNat ++ d :: l.drop k.toNat)))) else .st
      | _, _ => .st
    | _ => .st
  | .rem i e, env => match geti env i with
    | .o (.list l) => onR (evE Φ e env) env fun x => match x, asInts l with
      | .int k, some ns => if k ∈ ns then .nx (sets env i (.o (.list ((ns.erase k).map .int)))) else .st
      | .tuple t, _ => if SeqAt.shaped (.tuple t) && SeqAt.shaped (.list l) then (match indexD l (.tuple t) 0 with
        | some j => .nx (sets env i (.o (.list (l.eraseIdx j.toNat))))
        | none => .st) else .st
      | _, _ => .st
    | _ => .st
  | .setIx i a b, env => match geti env i with
    | .o (.list _) => onR (evE Φ b env) env fun d => onR (evE Φ a env) env fun x => match x, geti (shr b.vars d env) i with
      | .int k, .o (.list l) => match L2.ixN l.length k with
        | some j => .nx (sets (shr b.vars d env) i (.o (.list (l.set j d))))
        | none => .st
      | _, _ => .st
    | .o (.dict kvs0) => if noTK kvs0 then (onR (evE Φ b env) env fun d => onR (evE Φ a env) env fun x => match geti (shr b.vars d env) i with
      | .o (.dict kvs) => if isKey x && decide (kvs.length < cap) then .nx (sets (shr b.vars d env) i (.o (.dict (putD x d kvs)))) else .st
      | _ => .st) else .st
    | _ => .st
  | .nat n F, env => match argsD n env with
    | some ds => (match F Φ ds with
      | .ok d => .rt d
      | .ex c => .ex c env
      | .st => .st)
    | none => .st
  | .exp e, env => onR (evE Φ e env) env fun _ => .nx env
  | .ite c a b, env => onR (toB (evE Φ c env)) env fun k => if k then evSs Φ fu a env else evSs Φ fu b env
  | .for_ t it b, env => onR (evI Φ it env) env fun ds => evFor (evSs Φ fu b) t ds (frzI it ds env)
  | .whl c b, env => evWhl (fun env => toB (evE Φ c env)) (evSs Φ fu b) fu env
  | .ret e, env => onR (evE Φ e env) env fun d => .rt d
  | .retN, _ => .rt .none
  | .raise c, env => .ex c env
  | .brk, env => .bk env
  | .pas, env => .nx env
  | .prc f e i, env => match geti env i with
    | .o (.list l) => onR (evE Φ e env) env fun d => match geti (frzS e.vars 0 env) i, Φ f [d, .list l] with
      | .o _, .ok (.list m) => .nx (sets (frzS e.vars 0 env) i (.o (.list m)))
      | _, _ => .st
    | _ => .st
  | .own j b, env => match geti env j with
    | .f (.list l) => (match evSs Φ fu b (sets env j (.o (.list l))) with
      | .nx env1 => (match geti env1 j with
        | .o d => .rt d
        | _ => .st)
      | _ => .st)
    | _ => .st
  | .try_ b ks c n s, env => match evSs Φ fu b env with
    | .ex k env1 => if ks.contains k then (if subC k c then (match n with
      | some i => match evSs Φ fu s (sets env1 i (.x k)) with
        | .nx env2 => .nx (sets env2 i .u)
        | .bk env2 => .bk (sets env2 i .u)
        | .rt d => .rt d
        | _ => .st
      | none => match evSs Φ fu s env1 with
        | .nx env2 => .nx env2
        | .bk env2 => .bk env2
        | .rt d => .rt d
        | _ => .st) else .ex k env1) else .st
    | o => o
def evSs (Φ : Phi) (fu : Nat) : List S → Env → Out
  | [], env => .nx env
  | s :: r, env => match evS Φ fu s env with
    | .nx env1 => evSs Φ fu r env1
    | o => o
end
structure Fn where
  np : Nat
  nl : Nat
  body : List S
def runFn (Φ : Phi) (fu : Nat) (fn : Fn) (ds : List D) : R D := if ds.length = fn.np then (match evSs Φ fu fn.body (ds.map .f ++ List.replicate (fn.nl - fn.np) .u) with
    | .nx _ => .ok .none
    | .rt d => .ok d
    | .ex c _ => .ex c
    | _ => .st) else .st
def callP (P : Str → Option Fn) (fu : Nat) : Nat → Phi
  | 0, _, _ => .st
  | k + 1, f, ds => match P f with
    | some fn => runFn (callP P fu k) fu fn ds
    | none => .st
end PC
set_option Elab.async false
set_option linter.all false
namespace PC
open PySem PySem.Spec PyProof.Rows L2
/-- what is known of a def's surroundings -/
structure G where
  N : List Str
  fns : List (Str × Nat)
  cis : List (Str × Int)
  cts : List (Str × List D)
  ecs : List Str
  isx : Bool := false
  prs : List Str := []
  pin : Option Nat := none
def ix? (x : Str) : List Str → Nat → Option Nat
  | [], _ => none
  | y :: r, k => if x == y then some k else ix? x r (k + 1)
def visB (sc : Scope) (x : Str) : Bool := match sc.names.lookup x with
  | some .local => true
  | some .cell => true
  | some .free => true
  | _ => false
def locB (sc : Scope) (x : Str) : Bool := match sc.names.lookup x with
  | some .local => true
  | some .cell => true
  | _ => false
def glB (sc : Scope) (x : Str) : Bool := match sc.names.lookup x with
  | some .globalImplicit => true
  | _ => false
def cName (g : G) (sc : Scope) (x : Str) : Option E :=
  if x == ("__debug__" : Str) || x == ("__classdict__" : Str) then none else
  match ix? x g.N 0 with
  | some i => if visB sc x then some (.v i) else none
  | none => if glB sc x then (g.cis.lookup x).map .int else none
def cmOf : CmpOp → Option Cm
  | .Eq => some .eq
  | .NotEq => some .ne
  | .Lt => some .lt
  | .LtE => some .le
  | .Gt => some .gt
  | .GtE => some .ge
  | .In => some .in_
  | .NotIn => some .nin
  | _ => none
def opOf : Operator → Option Op
  | .Add => some .add
  | .Sub => some .sub
  | .Mult => some .mul
  | .FloorDiv => some .div
  | .Mod => some .mod
  | .Pow => some .pow
  | _ => none
/-- built-ins that take values alone -/
def biOf (f : Str) (n : Nat) : Option Bi :=
  if f == ("len" : Str) && n == 1 then some .len
  else if f == ("abs" : Str) && n == 1 then some .abs
  else if f == ("min" : Str) && n == 1 then some .min1
  else if f == ("min" : Str) && n == 2 then some .min2
  else if f == ("max" : Str) && n == 1 then some .max1
  else if f == ("max" : Str) && n == 2 then some .max2
  else if f == ("sorted" : Str) && n == 1 then some .sorted
  else if f == ("sum" : Str) && n == 1 then some .sum
  else if f == ("all" : Str) && n == 1 then some .all
  else if f == ("any" : Str) && n == 1 then some .any
  else none
def tyOf (f : Str) (n : Nat) : Option Bi :=
  if f == ("int" : Str) && n == 1 then some .int
  else if f == ("tuple" : Str) && n == 1 then some .tuple
  else if f == ("list" : Str) && n == 1 then some .list
  else if f == ("str" : Str) && n == 1 then some .str
  else none
def ownOf (N : List Str) : List (Str × NameKind) → List (Str × Nat)
  | [] => []
  | (x, .local) :: r => match ix? x N 0 with
    | some i => (x, i) :: ownOf N r
    | none => ownOf N r
  | (x, .cell) :: r => match ix? x N 0 with
    | some i => (x, i) :: ownOf N r
    | none => ownOf N r
  | _ :: r => ownOf N r
def cT (g : G) (sc : Scope) : Expr → Option T
  | .Name x _ => match ix? x g.N 0 with
    | some i => if locB sc x then some (.n i) else none
    | none => none
  | .Tuple es _ _ => (es.mapM fun (e : PySem.Expr) => match e with
    | .Name x _ => match ix? x g.N 0 with
      | some i => if locB sc x then some i else none
      | none => none
    | _ => none).map .t
  | _ => none
def isSetCall (sc : Scope) : Expr → Option Expr
  | .Call (.Name f _) [a] [] _ => if f == ("set" : Str) && glB sc f then some a else none
  | _ => none
def rangeArgs (sc : Scope) : Expr → Option (List Expr)
  | .Call (.Name f _) args [] _ => if f == ("range" : Str) && glB sc f then some args else none
  | _ => none
def enumArg (sc : Scope) : Expr → Option Expr
  | .Call (.Name f _) [a] [] _ => if f == ("enumerate" : Str) && glB sc f then some a else none
  | _ => none
def kindB (sc : Scope) : Expr → Option Bi
  | .Name x _ => if glB sc x then (if x == ("int" : Str) then some .isInt else if x == ("str" : Str) then some .isStr else if x == ("bool" : Str) then some .isBool else if x == ("tuple" : Str) then some .isTup else none) else none
  | _ => none
def clsArg (g : G) (sc : Scope) (a c : Expr) : Option (Nat × Str) := match a, c with
  | .Name x _, .Name k _ => match ix? x g.N 0 with
    | some i => if g.isx && visB sc x && glB sc k && g.ecs.contains k && !(x == ("__debug__" : Str) || x == ("__classdict__" : Str)) && !(k == ("__debug__" : Str)) then some (i, k) else none
    | none => none
  | _, _ => none
def popOf (g : G) (sc : Scope) : Expr → Option (Nat × Expr)
  | .Call (.Attribute (.Name y _) k ap) [a] [] p => if k == ("pop" : Str) && ap.endLine == p.line && visB sc y && !(y == ("__debug__" : Str)) && !(y == ("__classdict__" : Str)) then (ix? y g.N 0).map fun j => (j, a) else none
  | _ => none
def mtOf (m : Str) : Option Mt :=
  if m == ("index" : Str) then some .index
  else if m == ("count" : Str) then some .count
  else if m == ("join" : Str) then some .join
  else if m == ("split" : Str) then some .split
  else none
/-- the texts of a written tuple -/
def strsC : List Expr → Option (List Str)
  | [] => some []
  | .Constant (.str s) _ _ :: r => (strsC r).map (s :: ·)
  | _ :: _ => none
def tixOf : Expr → Str → Option (List Str)
  | .Tuple es _ _, m => if m == ("index" : Str) && decide (es.length ≤ 1000) then strsC es else none
  | _, _ => none
/-- in, not in a written tuple of the module -/
def cstOf (g : G) (sc : Scope) : List CmpOp → List Expr → Option (Bool × List D)
  | [.In], [.Name x _] => if glB sc x && !(x == ("__debug__" : Str)) then (g.cts.lookup x).map fun l => (false, l) else none
  | [.NotIn], [.Name x _] => if glB sc x && !(x == ("__debug__" : Str)) then (g.cts.lookup x).map fun l => (true, l) else none
  | _, _ => none
mutual
def cE (g : G) : Nat → Bool → Scope → Expr → Option E
  | 0, _, _, _ => none
  | n + 1, cm, sc, e => match e with
    | .Name x _ => cName g sc x
    | .Constant (.int i) _ _ => some (.int i)
    | .Constant (.str s) _ _ => some (.str s)
    | .Constant (.bool b) _ _ => some (.bl b)
    | .Constant .none _ _ => some .non
    | .UnaryOp .Not a _ => (cE g n cm sc a).map .not
    | .UnaryOp .USub a _ => (cE g n cm sc a).map fun x => .bi .neg (.cons x .nil)
    | .BoolOp .And (a :: r) _ => cAnd g n cm sc a r
    | .BoolOp .Or (a :: r) _ => cOr g n cm sc a r
    | .BinOp a o b _ => (opOf o).bind fun o => (cE g n cm sc a).bind fun x => (cE g n cm sc b).map fun y => .op o x y
    | .Compare a [.Is] [.Constant .none _ _] _ => (cE g n cm sc a).map fun x => .bi .isNone (.cons x .nil)
    | .Compare a [.IsNot] [.Constant .none _ _] _ => (cE g n cm sc a).map fun x => .bi .notNone (.cons x .nil)
    | .Compare a [.Is] [.Constant (.bool b) _ _] _ => (cE g n cm sc a).map fun x => .bi (.isB b false) (.cons x .nil)
    | .Compare a [.IsNot] [.Constant (.bool b) _ _] _ => (cE g n cm sc a).map fun x => .bi (.isB b true) (.cons x .nil)
    | .Compare a ops cs _ => match cstOf g sc ops cs with
      | some (neg, l) => (cE g n cm sc a).map fun x => .bi (if neg then .ninC l else .inC l) (.cons x .nil)
      | none => (cE g n cm sc a).bind fun x => (cC g n cm sc ops cs).map fun r => .cmp x r
    | .Tuple es _ _ => if es.length ≤ 1000 then (cEs g n cm sc es).map .tup else none
    | .List es _ => if es.length ≤ 1000 then (cEs g n cm sc es).map .lst else none
    | .Subscript a (.Slice none none (some (.UnaryOp .USub (.Constant (.int 1) _ _) _)) _) _ => (cE g n cm sc a).map .rev
    | .Subscript a (.Slice lo hi none _) _ => (cE g n cm sc a).bind fun x => (cO g n cm sc lo).bind fun l => (cO g n cm sc hi).map fun h => .sl x l h
    | .Subscript _ (.Slice _ _ _ _) _ => none
    | .Subscript a b _ => (cE g n cm sc a).bind fun x => (cE g n cm sc b).map fun y => .ix x y
    | .Call (.Name f _) args [] _ =>
      if !(glB sc f) || f == ("__debug__" : Str) then none else
      match g.fns.lookup f with
      | some k => if cm && args.length == k && !args.isEmpty then (cEs g n cm sc args).map fun es => .call f es else none
      | none => match args with
        | [a] => match isSetCall sc a with
          | some b => if cm && f == ("len" : Str) then (cE g n cm sc b).map fun x => .bi .lenSet (.cons x .nil) else if cm && f == ("sorted" : Str) then (cE g n cm sc b).map fun x => .bi .sortSet (.cons x .nil) else none
          | none => match rangeArgs sc a with
            | some [b] => if !cm then none else if f == ("list" : Str) then (cE g n cm sc b).map fun x => .bi .listR1 (.cons x .nil) else if f == ("tuple" : Str) then (cE g n cm sc b).map fun x => .bi .tupR1 (.cons x .nil) else none
            | some [b, c] => if !cm then none else (cE g n cm sc b).bind fun x => (cE g n cm sc c).bind fun y => if f == ("list" : Str) then some (.bi .listR2 (.cons x (.cons y .nil))) else if f == ("tuple" : Str) then some (.bi .tupR2 (.cons x (.cons y .nil))) else none
            | some _ => none
            | none => match biOf f 1 with
              | some b => if cm then (cE g n cm sc a).map fun x => .bi b (.cons x .nil) else none
              | none => match tyOf f 1 with
                | some b => (cE g n cm sc a).map fun x => .bi b (.cons x .nil)
                | none => none
        | [a, b] => if f == ("isinstance" : Str) then (match kindB sc b with
            | some k => (cE g n cm sc a).map fun x => .bi k (.cons x .nil)
            | none => (clsArg g sc a b).map fun p => .isx p.1 p.2)
          else match biOf f 2 with
            | some k => if cm then (cE g n cm sc a).bind fun x => (cE g n cm sc b).map fun y => .bi k (.cons x (.cons y .nil)) else none
            | none => none
        | _ => none
    | .Call (.Attribute o m ap) [a] [] p => if !(ap.endLine == p.line) then none else
        match tixOf o m with
        | some ys => (cE g n cm sc a).map fun y => .bi (.tix ys) (.cons y .nil)
        | none => (mtOf m).bind fun q => (cE g n cm sc o).bind fun x => (cE g n cm sc a).map fun y => .mth q x y
    | .ListComp elt [⟨t, it, ifs, 0⟩] scope _ => if !cm || !(blkC g.N sc scope (ownOf g.N scope.names)) then none else
      (cI g n cm sc t it).bind fun i => (cT g scope t).bind fun tt => if !(tt.ids.all fun j => ((ownOf g.N scope.names).map (·.2)).contains j) then none else (cF g n cm (relS scope sc) ifs).bind fun c => (cE g n cm (relS scope sc) elt).map fun x => .lc ((ownOf g.N scope.names).map (·.2)) tt i c x
    | .DictComp kx vx [⟨t, it, [], 0⟩] scope _ => if !cm || !(blkC g.N sc scope (ownOf g.N scope.names)) then none else
      (cI g n cm sc t it).bind fun i => (cT g scope t).bind fun tt => if !(tt.ids.all fun j => ((ownOf g.N scope.names).map (·.2)).contains j) then none else (cE g n cm (relS scope sc) kx).bind fun x => (cE g n cm (relS scope sc) vx).map fun y => .dc ((ownOf g.N scope.names).map (·.2)) tt i x y
    | .Dict [] [] _ => some (.dsp .nil)
    | .Dict [some k] [v] _ => (cE g n cm sc k).bind fun x => (cE g n cm sc v).map fun y => .dsp (.cons x (.cons y .nil))
    | _ => none
def cAnd (g : G) : Nat → Bool → Scope → Expr → List Expr → Option E
  | 0, _, _, _, _ => none
  | n + 1, cm, sc, a, [] => cE g n cm sc a
  | n + 1, cm, sc, a, b :: r => (cE g n cm sc a).bind fun x => (cAnd g n cm sc b r).map fun y => .and x y
def cOr (g : G) : Nat → Bool → Scope → Expr → List Expr → Option E
  | 0, _, _, _, _ => none
  | n + 1, cm, sc, a, [] => cE g n cm sc a
  | n + 1, cm, sc, a, b :: r => (cE g n cm sc a).bind fun x => (cOr g n cm sc b r).map fun y => .or x y
def cEs (g : G) : Nat → Bool → Scope → List Expr → Option Es
  | 0, _, _, _ => none
  | _ + 1, _, _, [] => some .nil
  | n + 1, cm, sc, e :: r => (cE g n cm sc e).bind fun x => (cEs g n cm sc r).map fun y => .cons x y
def cC (g : G) : Nat → Bool → Scope → List CmpOp → List Expr → Option Cs
  | 0, _, _, _, _ => none
  | n + 1, cm, sc, [o], [b] => (cmOf o).bind fun c => (cE g n cm sc b).map fun y => .one c y
  | n + 1, cm, sc, o :: os, b :: bs => (cmOf o).bind fun c => (cE g n cm sc b).bind fun y => (cC g n cm sc os bs).map fun r => .more c y r
  | _ + 1, _, _, _, _ => none
def cO (g : G) : Nat → Bool → Scope → Option Expr → Option Oe
  | 0, _, _, _ => none
  | _ + 1, _, _, none => some .no
  | n + 1, cm, sc, some e => (cE g n cm sc e).map .yes
def cF (g : G) : Nat → Bool → Scope → List Expr → Option Oe
  | 0, _, _, _ => none
  | _ + 1, _, _, [] => some .no
  | n + 1, cm, sc, [e] => (cE g n cm sc e).map .yes
  | _ + 1, _, _, _ => none
def cI (g : G) : Nat → Bool → Scope → Expr → Expr → Option I
  | 0, _, _, _, _ => none
  | n + 1, cm, sc, t, it => match rangeArgs sc it with
    | some [a] => (cE g n cm sc a).map .r1
    | some [a, b] => (cE g n cm sc a).bind fun x => (cE g n cm sc b).map fun y => .r2 x y
    | some [a, b, c] => (cE g n cm sc a).bind fun x => (cE g n cm sc b).bind fun y => (cE g n cm sc c).map fun z => .r3 x y z
    | some _ => none
    | none => match enumArg sc it with
      | some a => (match t with | .Tuple _ _ _ => (cE g n cm sc a).map .en | _ => none)
      | none => (cE g n cm sc it).map .e
end
/-- the forms that make a new list -/
def frE : Expr → Bool
  | .List _ _ => true
  | .ListComp _ _ _ _ => true
  | .Dict _ _ _ => true
  | .DictComp _ _ _ _ _ => true
  | .Call (.Name _ _) [_] [] _ => true
  | _ => false
/-- which of the two rules of a store stands -/
def swB (sc : Scope) : Expr → Expr → Option Bool
  | .Name y py, .ListComp _ _ scope pos => some (py.line == pos.line && (sc.names.lookup y == some .local && !(scope.names.any fun (n, k) => n == y && (k == .local || k == .cell))))
  | .Name y py, .DictComp _ _ _ scope pos => some (py.line == pos.line && (sc.names.lookup y == some .local && !(scope.names.any fun (n, k) => n == y && (k == .local || k == .cell))))
  | _, _ => some false
def isSl : Expr → Bool
  | .Slice _ _ _ _ => true
  | _ => false
/-- a name that must keep its object -/
def pinB (g : G) (t : T) : Bool := t.ids.any fun i => g.pin == some i
/-- a call f(e, x) of a procedure that changes the list x -/
def prcOf (g : G) (cm : Bool) (sc : Scope) : Expr → Option (Str × Expr × Nat)
  | .Call (.Name f _) [a, .Name x _] [] _ => if cm && glB sc f && g.prs.contains f && !(f == ("__debug__" : Str)) && visB sc x && !(x == ("__debug__" : Str)) && !(x == ("__classdict__" : Str)) then (ix? x g.N 0).map fun i => (f, a, i) else none
  | _ => none
mutual
def cS (g : G) : Nat → Bool → Scope → Stmt → Option S
  | 0, _, _, _ => none
  | n + 1, cm, sc, s => match s with
    | .Assign [.Subscript (.Name x _) b _] e _ => if x == ("__debug__" : Str) || x == ("__classdict__" : Str) || !(visB sc x) || isSl b then none else
      match ix? x g.N 0 with
      | some i => match e with
        | .ListComp _ _ _ _ => none
        | .DictComp _ _ _ _ _ => none
        | _ => (cE g n cm sc b).bind fun y => (cE g n cm sc e).map fun z => .setIx i y z
      | none => none
    | .Assign [t] e _ => (cT g sc t).bind fun tt => if pinB g tt then none else (cE g n cm sc e).bind fun x => match tt with
      | .n _ => if (swB sc t e).isNone || (x.fresh && !(frE e)) then none else some (.asg tt x)
      | .t _ => if cm then (match e with | .Tuple _ _ _ => none | _ => some (.asg tt x)) else none
    | .AugAssign (.Name x _) o e _ => match ix? x g.N 0 with
      | some i => if locB sc x && !(pinB g (.n i)) then (opOf o).bind fun o => (cE g n cm sc e).map fun y => .aug i o y else none
      | none => none
    | .Expr (.Call (.Attribute (.Name x _) m ap) args [] p) _ => if !(ap.endLine == p.line) || x == ("__debug__" : Str) || x == ("__classdict__" : Str) then none else
      match ix? x g.N 0 with
      | some i => if !(visB sc x) then none else match args with
        | [a] => if m == ("append" : Str) then (match popOf g sc a with
            | some (j, b) => (cE g n cm sc b).map fun z => .appPop i j z
            | none => (cE g n cm sc a).map fun z => .app i z)
          else if m == ("extend" : Str) then (cE g n cm sc a).map fun z => .ext i z
          else if m == ("remove" : Str) then (cE g n cm sc a).map fun z => .rem i z
          else none
        | [] => if m == ("reverse" : Str) then some (.rvs i) else if m == ("sort" : Str) then some (.srt i) else none
        | [a, b] => if m == ("insert" : Str) then (cE g n cm sc a).bind fun z => (cE g n cm sc b).map fun y => .ins i z y else none
        | _ => none
      | none => none
    | .Expr e _ => (match prcOf g cm sc e with
      | some (f, a, i) => (cE g n cm sc a).map fun x => .prc f x i
      | none => match e with | .ListComp _ _ _ _ => none | .DictComp _ _ _ _ _ => none | _ => (cE g n cm sc e).map .exp)
    | .If c a b _ => (cE g n cm sc c).bind fun x => (cSs g n cm sc a).bind fun y => (cSs g n cm sc b).map fun z => .ite x y z
    | .For t it b [] _ => if !cm then none else (cT g sc t).bind fun tt => if pinB g tt then none else (cI g n cm sc t it).bind fun i => (cSs g n cm sc b).map fun y => .for_ tt i y
    | .While c b [] _ => (cE g n cm sc c).bind fun x => (cSs g n cm sc b).map fun y => .whl x y
    | .Return (some e) _ => (cE g n cm sc e).map .ret
    | .Return none _ => some .retN
    | .Raise (some (.Call (.Name c _) [.Constant (.str _) _ _] [] _)) none _ => if cm && glB sc c && g.ecs.contains c && !(c == ("__debug__" : Str)) then some (.raise c) else none
    | .Break _ => some .brk
    | .Pass _ => some .pas
    | .Try b [.ExceptHandler (some (.Name c _)) nm (s0 :: su) _] [] [] _ => if !cm || !(glB sc c) || !(g.ecs.contains c) || c == ("__debug__" : Str) then none else
      (cSs g n cm sc b).bind fun x => (cSs g n false sc (s0 :: su)).bind fun y => match nm with
        | none => some (.try_ x g.ecs c none y)
        | some v => match ix? v g.N 0, sc.names.lookup v with
          | some i, some .local => if pinB g (.n i) then none else some (.try_ x g.ecs c (some i) y)
          | _, _ => none
    | _ => none
def cSs (g : G) : Nat → Bool → Scope → List Stmt → Option (List S)
  | 0, _, _, _ => none
  | _ + 1, _, _, [] => some []
  | n + 1, cm, sc, s :: r => (cS g n cm sc s).bind fun x => (cSs g n cm sc r).map fun y => x :: y
end
/-- the body of a procedure: an early return ends it -/
def cTl (g : G) : Nat → Scope → List Stmt → Option (List S)
  | 0, _, _ => none
  | n + 1, sc, .If c [.Return none _] [] _ :: r => (cE g n true sc c).bind fun x => (cTl g n sc r).map fun y => [.ite x [.pas] y]
  | n + 1, sc, s => cSs g n true sc s
end PC
set_option Elab.async false
set_option linter.all false
namespace PC
open PySem PySem.Spec PyProof.Rows L2
/-- a key, where its tuple stands, a value -/
abbrev TK := List Int × Addr × V
def TEs (ks : List TK) (es : List DictEntry) : Prop := ∃ xs : List (List Int × Addr × Value), Paired (fun (p : TK) (q : List Int × Addr × Value) => p.1 = q.1 ∧ p.2.1 = q.2.1 ∧ RelV p.2.2 q.2.2) ks xs ∧
  (∀ (P : Program) (w : World), es = xs.map (entryOfKey (tupleKind (intKind P w)))) ∧ (xs.map (·.1)).Nodup
def IsTX (a : Addr) (ks : List TK) (h : Heap) : Prop := ks.length ≤ sizeLine ∧ (a == sysModules) = false ∧ ∃ o es ep, h.get? a = some o ∧ o.ExactDict ∧ o.data = .dict es ep ∧ TEs ks es.toList
def dTX (a : Addr) (ks : List TK) : HO := .ext (IsTX a ks)
section
variable {P : Program} {w : World} {H : Hp} {h : Heap} {a : Addr} {ks : List TK}
theorem IsTX.ok (t : IsTX a ks h) : ObjOk P w H h a (dTX a ks) := by
  obtain ⟨z, y, o, es, ep, e, r⟩ := t
  exact ⟨⟨z, y, o, es, ep, e, r⟩, ⟨o, e⟩, fun h1 h2 ⟨z, y, o, es, ep, e, r⟩ k => ⟨z, y, o, es, ep, k _ e, r⟩⟩
theorem isTX_of (ok : HOk P w H h) (e : H a = some (dTX a ks)) : IsTX a ks h := (show ObjOk P w H h a (dTX a ks) from ok a _ e).1
theorem isTX_new (h : Heap) (hb : sysModules < h.objs.size) : IsTX h.objs.size [] (h.push { cls := .type "dict", data := .dict #[] }) :=
  ⟨Nat.zero_le _, beq_eq_false_iff_ne.mpr (Ne.symm (Nat.ne_of_lt hb)), _, #[], 0, Heap.get?_push_size _ rfl, ⟨rfl, rfl, rfl⟩, rfl, [], .nil, fun _ _ => rfl, List.nodup_nil⟩
/-- an empty dict of the other kind -/
theorem isTX_k (ok : HOk P w H h) (e : Rd H a (.dK [])) : IsTX a [] h := by
  obtain ⟨z, y, vs, r, dd⟩ := dk_rd ok e
  cases r
  obtain ⟨o, es, ep, h1, h2, h3, h4⟩ := dd
  refine ⟨z, y, o, es, ep, h1, h2, h3, [], .nil, fun _ _ => ?_, List.nodup_nil⟩
  have p := h4.2.1
  generalize es.toList = l at p
  cases p
  rfl
theorem tk_is {b : Addr} {k : List Int} (ok : HOk P w H h) (e : Rd H b (.tup (k.map V.int))) : (tupleKind (intKind P w)).is h k b := by
  obtain ⟨zz, its, r, o, h1, h2, n, h3⟩ := (show ObjOk P w H h b (.tup (k.map V.int)) from e.ok ok)
  clear zz
  refine ⟨o, its.toArray, n, h1, h2, h3, ?_⟩
  show ItemsAre (intKind P w) k its
  clear h3 e
  induction k generalizing its with
  | nil => cases r; exact .nil
  | cons x k ih =>
    cases r with
    | cons hx t =>
      obtain ⟨u, rfl⟩ := hx
      exact .cons (show Value.isInt x (.int x u) = true by simp [Value.isInt]) (ih _ t)
def valT (ks : List TK) (k : List Int) : Option V := (ks.find? fun x => decide (x.1 = k)).map (·.2.2)
def putT (ks : List TK) (k : List Int) (b : Addr) (v : V) : List TK := if (valT ks k).isSome then ks.map fun x => if x.1 = k then (x.1, x.2.1, v) else x else ks ++ [(k, b, v)]
abbrev TKR : TK → List Int × Addr × Value → Prop := fun p q => p.1 = q.1 ∧ p.2.1 = q.2.1 ∧ RelV p.2.2 q.2.2
/-- all keys stand -/
def TKs (H : Hp) (ks : List TK) : Prop := ∀ x ∈ ks, Rd H x.2.1 (.tup (x.1.map V.int))
theorem tx_dict (ok : HOk P w H h) (t : IsTX a ks h) (hk : TKs H ks) : ∃ xs, Paired TKR ks xs ∧ h.DictOfH (tupleKind (intKind P w)) a xs := by
  obtain ⟨z1, z2, o, es, ep, h1, h2, h3, xs, r, he, hn⟩ := t
  clear z1
  refine ⟨xs, r, o, es, ep, h1, h2, h3, he P w, fun x hx => ?_, hn⟩
  clear he hn h2
  induction r with
  | nil => cases hx
  | @cons p q ps qs hq t ih =>
    rcases List.mem_cons.mp hx with e | hx
    · subst e
      rw [← hq.1, ← hq.2.1]
      exact tk_is ok (hk p List.mem_cons_self)
    · exact ih (fun y m => hk y (List.mem_cons_of_mem _ m)) hx
theorem tx_val {xs : List (List Int × Addr × Value)} (r : Paired TKR ks xs) (k : List Int) : RelO (valT ks k) ((atKey xs k).map (·.2)) := by
  induction r with
  | nil => exact True.intro
  | @cons p q ps qs h t ih =>
    obtain ⟨h1, _, h2⟩ := h
    unfold valT atKey at ih ⊢
    by_cases e : p.1 = k
    · have e' : q.1 = k := by rw [← h1]; exact e
      simp only [List.find?_cons, e, e', decide_true, Option.map_some]
      exact h2
    · have e' : ¬ q.1 = k := by rw [← h1]; exact e
      simpa [e, e'] using ih
theorem tx_put {xs : List (List Int × Addr × Value)} {k : List Int} {b : Addr} {v : V} {u : Value} (r : Paired TKR ks xs) (rv : RelV v u) : Paired TKR (putT ks k b v) (storedH xs k b u) := by
  have e : (valT ks k).isSome = (atKey xs k).isSome := by
    have := (tx_val r k).isSome_eq
    rwa [Option.isSome_map] at this
  unfold putT storedH
  rw [e]
  by_cases q : (atKey xs k).isSome = true
  · rw [if_pos q, if_pos q]
    clear e q
    induction r with
    | nil => exact .nil
    | @cons p q ps qs h t ih =>
      refine .cons ?_ ih
      unfold putAt
      show TKR (if p.1 = k then (p.1, p.2.1, v) else p) _
      by_cases e : p.1 = k
      · rw [if_pos e, if_pos (by rw [← h.1]; exact e)]
        exact ⟨h.1, h.2.1, rv⟩
      · rw [if_neg e, if_neg (by rw [← h.1]; exact e)]
        exact h
  · rw [if_neg q, if_neg q]
    exact Paired.snoc r ⟨rfl, rfl, rv⟩
theorem putT_len (ks : List TK) (k : List Int) (b : Addr) (v : V) : (putT ks k b v).length ≤ ks.length + 1 := by
  unfold putT
  split <;> simp
theorem tx_stored {xs : List (List Int × Addr × Value)} (hz : ks.length ≤ sizeLine) (hd : (a == sysModules) = false) (r : Paired TKR ks xs) (dd : h.DictOfH (tupleKind (intKind P w)) a xs) : IsTX a ks h := by
  obtain ⟨o, es, ep, h1, h2, h3, h4, _, h5⟩ := dd
  exact ⟨hz, hd, o, es, ep, h1, h2, h3, xs, r, fun _ _ => h4, h5⟩
end
section
variable {X : Cx} {pins : List (Addr × Obj)} {σ : L2.St} {H : Hp} {s : Shared} {E : Value → Shared → Prop} {a b : Addr} {ks : List TK} {k : List Int}
/-- d[k] = v within a comprehension -/
theorem tx_dictSet {v : V} {u : Value} {Q : Unit → Shared → Prop} (hu : X.A.units < cLine) (J : Inv X pins σ H s) (hm : Mut (H a)) (hx : IsTX a ks s.heap) (hk : TKs H ks) (hb : Rd H b (.tup (k.map V.int))) (hl : ks.length < sizeLine) (rv : RelV v u)
    (h : ∀ s', Inv X pins σ (upd H a (dTX a (putT ks k b v))) s' → Q () s') : wpAny (model X.prog X.w) X.A (dictSet a (.ref b) u) Q E s := by
  obtain ⟨xs, r, dd⟩ := tx_dict J.hok hx hk
  have hz : xs.length ≤ sizeLine := by rw [← Paired.length r]; omega
  refine wpAny_dictSet_heap (hsz := hz) hu (tk_is J.hok hb) dd fun h' dd' hs => h _ ?_
  have hl2 := putT_len ks k b v
  have t := tx_stored (by omega) hx.2.1 (tx_put (k := k) (b := b) r rv) dd'
  obtain ⟨q, _, _, hq, _⟩ := dd'
  exact d_write J hm hs ⟨q, hq⟩ t.ok
/-- k in d -/
theorem tx_in {Q : Value → Shared → Prop} {A : Around} (hu : A.units + 1 < cLine) (J : Inv X pins σ H s) (hx : IsTX a ks s.heap) (hk : TKs H ks) (hb : Rd H b (.tup (k.map V.int)))
    (h : ∀ s', Inv X pins σ H s' → Q (.bool (valT ks k).isSome) s') : wpAny (model X.prog X.w) A (compareOp .In (.ref b) (.ref a)) Q E s := by
  obtain ⟨xs, r, dd⟩ := tx_dict J.hok hx hk
  refine wpAny_in_heap (tupleKind_room_in1 hu) (tk_is J.hok hb) hx.2.1 dd ?_
  have q := (tx_val r k).isSome_eq
  rw [Option.isSome_map] at q
  rw [← q]
  exact h _ (J.tok _)
theorem tx_notIn {Q : Value → Shared → Prop} {A : Around} (hu : A.units + 1 < cLine) (J : Inv X pins σ H s) (hx : IsTX a ks s.heap) (hk : TKs H ks) (hb : Rd H b (.tup (k.map V.int)))
    (h : ∀ s', Inv X pins σ H s' → Q (.bool (!(valT ks k).isSome)) s') : wpAny (model X.prog X.w) A (compareOp .NotIn (.ref b) (.ref a)) Q E s := by
  obtain ⟨xs, r, dd⟩ := tx_dict J.hok hx hk
  refine wpAny_notIn_heap (tupleKind_room_in1 hu) (tk_is J.hok hb) hx.2.1 dd ?_
  have q := (tx_val r k).isSome_eq
  rw [Option.isSome_map] at q
  rw [← q]
  exact h _ (J.tok _)
end
end PC
set_option Elab.async false
set_option linter.all false
namespace PC
open PySem PySem.Spec PyProof.Rows L2
/-- behind a turn the block's names are wiped, the iterator's own objects stand as they stood -/
theorem turn_back {Y : Cx} {τ σ8 : L2.St} {fp : List Addr} {tn : Nat → Heap → Prop} {P : Program} {w : World} {K : PySem.W.Frag} {tg : Expr} {J : It} {it : Addr} (T : Turn P w K tg J fp it tn) {s7 s' : Shared} {H' : Hp} {i : Nat} {vs : List Nat}
    (hw : wipe σ8 vs = τ) (st : tn i s7.heap) (I : Inv Y ([] ++ pinsAt fp s7.heap) σ8 H' s') : Inv Y [] τ H' s' ∧ tn i s'.heap ∧ ∀ b ∈ fp, H' b = none := by
  have stay : ∀ b ∈ fp, ∀ o, s7.heap.get? b = some o → s'.heap.get? b = some o ∧ H' b = none := fun b hb o e => by
    obtain ⟨z1, z2, _⟩ := I.pin (b, o) (List.mem_append_right _ (List.mem_append_right _ (mem_pinsAt hb e)))
    exact ⟨z1, z2⟩
  refine ⟨(I.unpinned (pins := [])).weak (by rw [← hw, wipe_length]) fun j v e => ?_, T.keep _ _ _ st fun b hb o e => (stay b hb o e).1, fun b hb => ?_⟩
  · rw [← hw] at e
    exact (wipe_some e).1
  · obtain ⟨o, e, _⟩ := T.obj _ _ st b hb
    exact (stay b hb o e).2
def tDcT (wi : TI) (g : TG) (tt : TT) (tk tv : TE) (vs : List Nat) : TE := fun σ H Q => wi σ H fun J H1 => ∀ D, H1 D = none → ∃ W : Nat → Nat → Hp → Prop, (∃ m, W 0 m (upd H1 D (dTX D []))) ∧ ∀ i m H, W i m H →
  (J.stop i H ∧ Q (.ref D) H) ∨ (J.go i H ∧ ∃ Nx : Hp → Prop, (∀ H', Nx H' → ∃ m', m' < m ∧ W (i + 1) m' H') ∧ ∀ x H', J.yld i H x H' → g x (wipe σ vs) H' fun σ2 H2 => wipe σ2 vs = wipe σ vs ∧ tt σ2 H2 fun b H3 =>
    if b = true then tk σ2 H3 fun y H4 => tv σ2 H4 fun z H5 => ∃ ks k c, y = .ref c ∧ Rd H5 c (.tup (k.map V.int)) ∧ H5 D = some (dTX D ks) ∧ TKs H5 ks ∧ ks.length < sizeLine ∧ Nx (upd H5 D (dTX D (putT ks k c z))) else Nx H3)
section
variable {X : Cx} {kx vx tg iter : Expr} {ifs : List Expr} {scope : Scope} {own : List (Str × Nat)} {pos : Pos} {wi : TI} {g : TG} {tt : TT} {tk tv : TE}
theorem dcT_core {pins : List (Addr × Obj)} {s : Shared} {σ : L2.St} {H : Hp} {Q : VK} {pos' : Pos} {use : Option (Value → Sem Unit)} {Qf : Value → Shared → Prop} (hc : X.calm = true) (hu : X.A.units + 1 < cLine) (hN : X.N.Nodup) (I : Inv X pins σ H s) (hi : PI X tg iter wi) (ok : BlkOk X.N X.env.scope scope own)
    (hg : ∀ (s : Shared) (H : Hp) (C : Addr) (cl : List (Str × Addr)) (fp : List Addr), PG (X.blk s H scope (compEnvC scope cl C X.env) fp) tg g) (ht : ∀ (s : Shared) (H : Hp) (C : Addr) (cl : List (Str × Addr)) (fp : List Addr), PTs (X.blk s H scope (compEnvC scope cl C X.env) fp) ifs tt)
    (hk : ∀ (s : Shared) (H : Hp) (C : Addr) (cl : List (Str × Addr)) (fp : List Addr), PE (X.blk s H scope (compEnvC scope cl C X.env) fp) kx tk)
    (he : ∀ (s : Shared) (H : Hp) (C : Addr) (cl : List (Str × Addr)) (fp : List Addr), PE (X.blk s H scope (compEnvC scope cl C X.env) fp) vx tv) (hs : ∀ x, foldedSetIterable iter X.env x = pure x)
    (h : tDcT wi g tt tk tv (own.map (·.2)) σ H Q)
    (hRR : ∀ D C s' m H', Inv X pins σ H' s' → Q (.ref D) H' → s'.heap.Ns C m → FpOk X pins H' C → compPost (model X.prog X.w) X.A X.xe use Qf (.ref D) C (.ok .next) s') :
    wpAny (model X.prog X.w) X.A (comprehension (.DictComp kx vx [⟨tg, iter, ifs, 0⟩] scope pos) scope X.env pos' newDict false (eval iter X.env) use) Qf X.xe s := by
  have cells : ∀ y ∈ scope.names, y.2 = .free → ∃ c, X.env.cells.lookup y.1 = some c := fun y hy e => (ok.free y hy e).elim (fun q => I.ok.has _ (.inl q)) fun q => I.ok.has _ (.inr q)
  refine wpAny_comprehension_free (use := use) rfl hs (closure_ok cells) ok.kind (fun y hy e => by rw [ok.uniq y hy, e]) (thn (hi.run pins s σ H _ I h) fun _ _ q => thn q ?_)
  rintro _ s2 ⟨it, fp, tn, J, H2, rfl, I2, T, st2, f2, q⟩
  refine wpAny_newObj_type (newEnv_comp ?_)
  -- the dict, empty
  obtain ⟨D, hD⟩ : ∃ D, D = s2.heap.objs.size := ⟨_, rfl⟩
  obtain ⟨W, ⟨m0, w0⟩, turn⟩ := q D (I2.hok.fresh (Nat.le_of_eq hD.symm))
  obtain ⟨s3, hs3⟩ : ∃ s3 : Shared, s3 = { s2 with heap := s2.heap.push { cls := .type "dict", data := .dict #[] } } := ⟨_, rfl⟩
  have up3 : ∀ b o, s2.heap.get? b = some o → s3.heap.get? b = some o := fun b o e => by rw [hs3]; exact Heap.get?_push_of_some _ e
  have I3 : Inv X pins σ (upd H2 D (dTX D [])) s3 := by
    rw [hs3]
    refine I2.laid (t' := s2.toks) (fun b o e => Heap.get?_push_of_some _ e) (Nat.le_of_eq hD.symm) ?_
    rw [hD]
    exact (isTX_new s2.heap I2.big).ok
  generalize hH3 : upd H2 D (dTX D []) = H3 at I3 w0
  have f3 : ∀ b ∈ fp, FpOk X pins H3 b ∧ b < s3.heap.objs.size := fun b hb => by
    obtain ⟨o, e, _⟩ := T.obj _ _ st2 b hb
    have hne : b ≠ D := by rw [hD]; exact Nat.ne_of_lt (Heap.lt_size e)
    refine ⟨⟨?_, (f2 b hb).2⟩, Heap.lt_size (up3 _ _ e)⟩
    rw [← hH3, upd_ne hne]
    exact (f2 b hb).1
  have st3 : tn 0 s3.heap := T.keep _ _ _ st2 fun b _ => up3 b
  -- the block
  have I4 := block_start I3 ok hN f3
  have mk : ∀ C cl, PG (X.blk s3 H3 scope (compEnvC scope cl C X.env) fp) tg g ∧ PTs (X.blk s3 H3 scope (compEnvC scope cl C X.env) fp) ifs tt ∧ PE (X.blk s3 H3 scope (compEnvC scope cl C X.env) fp) kx tk ∧ PE (X.blk s3 H3 scope (compEnvC scope cl C X.env) fp) vx tv := fun C cl => ⟨hg _ _ _ _ _, ht _ _ _ _ _, hk _ _ _ _ _, he _ _ _ _ _⟩
  have mk := mk s3.heap.objs.size (cellsFrom (s3.heap.objs.size + 1) scope.names (cloFrom X.env.cells scope.names []))
  obtain ⟨s4, hs4⟩ : ∃ s4 : Shared, s4 = { s3 with heap := pushCells (s3.heap.push { cls := .type "dict", data := .dict #[] }) scope.names } := ⟨_, rfl⟩
  have st4 : tn 0 s4.heap := T.keep _ _ _ st3 fun b _ o e => by rw [hs4]; exact pushCells_keeps _ _ _ _ (Heap.get?_push_of_some _ e)
  rw [← hs4] at I4
  obtain ⟨ce, hce⟩ : ∃ ce, ce = compEnvC scope (cellsFrom (s3.heap.objs.size + 1) scope.names (cloFrom X.env.cells scope.names [])) s3.heap.objs.size X.env := ⟨_, rfl⟩
  have loc : ce.locals = s3.heap.objs.size := by rw [hce]; rfl
  suffices loop : codeAny (model X.prog X.w) X.A (.compLoop (.DictComp kx vx [⟨tg, iter, ifs, 0⟩] scope pos) 0 (.ref it) (.ref D) ce) (compPost (model X.prog X.w) X.A X.xe use Qf (.ref D) s3.heap.objs.size) s4 by
    have fin := codeAny_compStart_dict loop (T.self X.A 0 _ _ _ st4 loop)
    rw [hce, hs4, hs3, hD] at fin
    exact fin
  rw [← hce] at I4 mk
  obtain ⟨pg, pt, pk, pe⟩ := mk
  have fps : ∀ {σ' : L2.St} {H' : Hp} {s' : Shared}, Inv (X.blk s3 H3 scope ce fp) [] σ' H' s' → (∀ b ∈ fp, H' b = none) → ∀ b ∈ fp, FpOk (X.blk s3 H3 scope ce fp) [] H' b := fun I' hn b hb =>
    ⟨hn b hb, (I'.ok.exf b hb).1, I'.ok.exfs b hb, .inl hb, fun x c e => (I'.ok.exf b hb).2 x c e, fun p hp => absurd (show p ∈ ([] : List (Addr × Obj)) ++ [] from hp) (by simp)⟩
  refine compLoop_anyD (fun n s' => ∃ i H', (Inv (X.blk s3 H3 scope ce fp) [] (wipe σ (own.map (·.2))) H' s' ∧ tn i s'.heap ∧ ∀ b ∈ fp, H' b = none) ∧ W i n H') ?_ m0 ⟨0, H3, ⟨I4, st4, fun b hb => (f3 b hb).1.1⟩, w0⟩
  rintro n s5 ⟨i, H5, ⟨I5, st5, n5⟩, w5⟩
  rcases turn i n H5 w5 with ⟨stop, qq⟩ | ⟨go, Nx, hNx, step⟩
  · refine thnF (T.done (X.blk s3 H3 scope ce fp) rfl rfl rfl hc i [] s5 _ H5 (fun _ _ => False) I5 (fps I5 n5) st5 stop) ?_
    rintro _ s6 ⟨rfl, I6⟩
    -- out of the block
    have I7 : Inv X pins σ H5 s6 := I3.call' (ch := fp) I6.os I6.base I6.hok I6.bare fun b hb => ⟨(f3 b hb).1.2.2.2.1, (f3 b hb).1.2.1, (f3 b hb).1.2.2.2.2.1, (f3 b hb).1.2.2.2.2.2⟩
    have nC : H5 s3.heap.objs.size = none := by
      have z : H5 ce.locals = none := I6.free
      rwa [loc] at z
    obtain ⟨m, hn, _⟩ := I6.loc
    have hn : s6.heap.Ns ce.locals m := hn
    rw [loc] at hn
    exact hRR D _ s6 m H5 I7 qq hn (I3.fpOk (Nat.le_refl _) nC)
  · refine thnF (T.item (X.blk s3 H3 scope ce fp) rfl rfl rfl hc i [] s5 _ H5 (fun _ _ => False) I5 (fps I5 n5) st5 go) ?_
    rintro _ s6 ⟨u, rfl, h6⟩
    refine thnF h6 ?_
    rintro _ s7 ⟨x, H7, I7, r7, y7, st7, n7⟩
    refine thnF (pg.run _ s7 _ H7 x u _ (I7.pinned (fps I7 n7) (T.obj _ _ st7)) r7 (step x H7 y7)) ?_
    rintro _ s8 ⟨σ8, H8, I8, hw8, q8⟩
    have next : ∀ {s' : Shared} {H' : Hp}, Inv (X.blk s3 H3 scope ce fp) ([] ++ pinsAt fp s7.heap) σ8 H' s' → Nx H' → ∃ m, m < n ∧ ∃ i H', (Inv (X.blk s3 H3 scope ce fp) [] (wipe σ (own.map (·.2))) H' s' ∧ tn i s'.heap ∧ ∀ b ∈ fp, H' b = none) ∧ W i m H' := fun I' nx => by
      obtain ⟨m', hm, w'⟩ := hNx _ nx
      exact ⟨m', hm, i + 1, _, turn_back T hw8 st7 I', w'⟩
    refine thnF (pt.run _ s8 σ8 H8 _ I8 q8) ?_
    rintro b s9 ⟨H9, I9, q9⟩
    by_cases hb : b = true
    · subst hb
      simp only [if_true] at q9 ⊢
      refine thnF (pk.run _ s9 σ8 H9 _ I9 q9) ?_
      rintro u10 s10 ⟨yk, H10, I10, r10, q10⟩
      refine thnF (pe.run _ s10 σ8 H10 _ I10 q10) ?_
      rintro u11 s11 ⟨yv, H11, I11, r11, ks, k, c, rfl, hc11, hD11, hks, hz, nx⟩
      obtain rfl : u10 = Value.ref c := r10
      exact tx_dictSet (X := X.blk s3 H3 scope ce fp) (Nat.lt_trans (Nat.lt_succ_self _) hu) I11 (by rw [hD11]; exact True.intro) (isTX_of I11.hok hD11) hks hc11 hz r11 fun s12 I12 => next I12 nx
    · rw [if_neg hb] at q9 ⊢
      exact next I9 q9
theorem pe_dcT (hc : X.calm = true) (hu : X.A.units + 1 < cLine) (hN : X.N.Nodup) (hi : PI X tg iter wi) (ok : BlkOk X.N X.env.scope scope own)
    (hg : ∀ (s : Shared) (H : Hp) (C : Addr) (cl : List (Str × Addr)) (fp : List Addr), PG (X.blk s H scope (compEnvC scope cl C X.env) fp) tg g) (ht : ∀ (s : Shared) (H : Hp) (C : Addr) (cl : List (Str × Addr)) (fp : List Addr), PTs (X.blk s H scope (compEnvC scope cl C X.env) fp) ifs tt)
    (hk : ∀ (s : Shared) (H : Hp) (C : Addr) (cl : List (Str × Addr)) (fp : List Addr), PE (X.blk s H scope (compEnvC scope cl C X.env) fp) kx tk)
    (he : ∀ (s : Shared) (H : Hp) (C : Addr) (cl : List (Str × Addr)) (fp : List Addr), PE (X.blk s H scope (compEnvC scope cl C X.env) fp) vx tv) (hs : ∀ x, foldedSetIterable iter X.env x = pure x) :
    PE X (.DictComp kx vx [⟨tg, iter, ifs, 0⟩] scope pos) (tDcT wi g tt tk tv (own.map (·.2))) := by
  refine ⟨fun pins s σ H Q I h => ?_⟩
  rw [arm_eval_DictComp]
  exact dcT_core hc hu hN I hi ok hg ht hk he hs h fun D C s' m H' I' q hn f => by
    obtain ⟨f0, f1, _, f3, f4, f5⟩ := f
    exact ⟨m, hn, fun h'' sb => ⟨.ref D, H', I'.turned (t' := s'.toks) (fun b o hb e => (sb.2 b hb).trans e) f0 f1 f3 f4 f5, rfl, q⟩⟩
end
end PC
set_option Elab.async false
set_option linter.all false
namespace PC
open PySem PySem.Spec PyProof.Rows L2
mutual
theorem noD_of : ∀ d : D, d.canLay0 = true → noD d = true
  | .none, _ => rfl
  | .bool _, _ => rfl
  | .int _, _ => rfl
  | .str _, _ => rfl
  | .list l, h => by
    simp only [noD]
    exact noDs_of l (by simpa [PyData.canLay0] using h)
  | .tuple l, h => by
    simp only [noD]
    exact noDs_of l (by simpa [PyData.canLay0] using h)
  | .dict _, h => by simp [PyData.canLay0] at h
theorem noDs_of : ∀ l : List D, PyData.canLayAll0 l = true → noDs l = true
  | [], _ => rfl
  | d :: r, h => by
    have h' : d.canLay0 = true ∧ PyData.canLayAll0 r = true := by simpa [PyData.canLayAll0] using h
    simp only [noDs, noD_of d h'.1, noDs_of r h'.2, Bool.and_self]
end
mutual
theorem noD_alike : ∀ d : D, W.alike d d = true → noD d = true
  | .none, _ => rfl
  | .bool _, _ => rfl
  | .int _, _ => rfl
  | .str _, _ => rfl
  | .list l, h => by
    simp only [noD]
    exact noDs_alike l (by simpa [W.alike] using h)
  | .tuple l, h => by
    simp only [noD]
    exact noDs_alike l (by simpa [W.alike] using h)
  | .dict _, h => by simp [W.alike] at h
theorem noDs_alike : ∀ l : List D, W.alikeAll l l = true → noDs l = true
  | [], _ => rfl
  | d :: r, h => by
    have h' : W.alike d d = true ∧ W.alikeAll r r = true := by simpa [W.alikeAll] using h
    simp only [noDs, noD_alike d h'.1, noDs_alike r h'.2, Bool.and_self]
end
theorem noDs_mem : ∀ {l : List D}, (∀ d ∈ l, noD d = true) → noDs l = true
  | [], _ => rfl
  | d :: r, h => by
    simp only [noDs, h d List.mem_cons_self, noDs_mem fun e m => h e (List.mem_cons_of_mem _ m), Bool.and_self]
/-- a key of a dict, as data -/
def keyD : Key → D
  | .inl i => .int i
  | .inr x => .str x
def Tp (H : Hp) (a : Addr) (xs : List V) : Prop := ∃ o : Obj, H a = some (.frz o (.tup xs)) ∧ o.dict = none
section
variable {H H' : Hp} {a : Addr} {xs ys : List V} {X : Cx}
theorem Tp.rd (h : Tp H a xs) : Rd H a (.tup xs) := let ⟨o, e, _⟩ := h; .inr ⟨o, e⟩
theorem Tp.sq {K : PySem.W.Frag} (h : Tp H a xs) : SqT K H a xs := .inl h.rd
theorem Tp.same (s : Same H H') (h : Tp H a xs) : Tp H' a xs := let ⟨o, e, d⟩ := h; ⟨o, s _ _ e, d⟩
theorem Tp.ne0 (h : Tp H a xs) : H a ≠ none := let ⟨o, e, _⟩ := h; by rw [e]; simp
theorem Tp.notL (h : Tp H a xs) (e : H a = some (.lst ys)) : False := by
  obtain ⟨o, e2, _⟩ := h
  rw [e] at e2; cases e2
theorem Tp.notD {ks : List (Key × V)} (h : Tp H a xs) (e : H a = some (.dK ks)) : False := by
  obtain ⟨o, e2, _⟩ := h
  rw [e] at e2; cases e2
theorem Tp.notX {b : Addr} {ks : List TK} (h : Tp H a xs) (e : H a = some (dTX b ks)) : False := by
  obtain ⟨o, e2, _⟩ := h
  rw [e] at e2; cases e2
theorem tp_new {p : Addr} {o : Obj} (hd : o.dict = none) : Tp (upd H p (.frz o (.tup xs))) p xs := ⟨o, upd_same, hd⟩
/-- a list or a dict that may change -/
def MutO (H : Hp) (a : Addr) : Prop := (∃ xs, H a = some (.lst xs)) ∨ (∃ ks, H a = some (.dK ks)) ∨ ∃ ks, H a = some (dTX a ks)
/-- a wish of a new tuple -/
def NewT (H : Hp) (xs : List V) (Q : VK) : Prop := ∀ p (o : Obj), H p = none → o.dict = none → Q (.ref p) (upd H p (.frz o (.tup xs)))
def rRepN (K : PySem.W.Frag) : R2 := fun x y H Q => ∃ l k xs, x = .ref l ∧ y = .int k ∧ SqT K H l xs ∧ xs ≠ [] ∧ 2 ≤ k ∧ k ≤ 1000 ∧ xs.length ≤ 1000 ∧ NewT H (List.replicate k.toNat xs).flatten Q
theorem op_repN : OpR X (binaryOp .Mult) (rRepN X.K) := by
  intro pins s σ H x y v u Q J rx ry h
  obtain ⟨l, kq, zs, rfl, rfl, gT0, gne, h1, h2, gz, q⟩ := h
  cases rx
  obtain ⟨t, rfl⟩ := ry
  obtain ⟨jt, r, ⟨⟨cl0, dt0, da0, sl0⟩, go, hc, n, hd⟩, hs⟩ := J.tuple gT0
  simp only at hc hd ⊢
  subst hc hd
  have gle : jt.length = zs.length := r.length.symm
  have gn : jt ≠ [] := fun e => gne (by
    rw [e] at gle
    exact List.length_eq_zero_iff.mp gle.symm)
  have gi : jt.toArray.isEmpty = false := by
    cases jt with
    | nil => exact absurd rfl gn
    | cons a1 b1 => rfl
  have gs0 : jt.toArray.size = zs.length := by rw [List.size_toArray, gle]
  have gm : ((jt.toArray.size : Nat) : Int) * kq ≤ 1000000 := by
    rw [gs0]
    have b1 : ((zs.length : Nat) : Int) * kq ≤ 1000 * kq := Int.mul_le_mul_of_nonneg_right (by omega) (by omega)
    omega
  have gfl : (List.replicate kq.toNat jt).flatten.length ≤ sizeLine := by
    rw [PyProof.Rows.lm_len_rep_flat, gle, sizeLine_eq]
    have b1 : kq.toNat * zs.length ≤ 1000 * 1000 := Nat.mul_le_mul (by omega) gz
    omega
  have d0 : (decide (kq < -(2 ^ 63)) || decide (kq ≥ 2 ^ 63)) = false := by
    rw [decide_eq_false (show ¬ kq < -(2 ^ 63) by omega), decide_eq_false (show ¬ kq ≥ 2 ^ 63 by omega)] <;> rfl
  have d1 : (jt.toArray.isEmpty || kq == 1) = false := by
    rw [gi, Bool.false_or]
    exact beq_eq_false_iff_ne.mpr (show kq ≠ 1 by omega)
  have d2 : (decide (kq ≤ 0) || jt.toArray.isEmpty) = false := by
    rw [gi, Bool.or_false]
    exact decide_eq_false (by omega)
  have d4 : Builtin.Tuple.tupleTooMany (((jt.toArray.size : Nat) : Int) * kq) = false := by
    unfold Builtin.Tuple.tupleTooMany
    rw [sizeLine_eq]
    exact decide_eq_false (by omega)
  refine wpAny_binaryOp_repeat_ref (T := "tuple") (U := "int") (by decide) ⟨_, go, rfl⟩ (fun s' => typeIs_int s' kq t) noFill_tuple_mul F.fills_int_mul F.slot_int_rmul repeat_tuple F.slot_int_index.lookup
    (call_meets F.slot_int_rmul (typeIs_int s kq t) F.entry_int_rmul (F.args_int_rmul_2 _ _) (int_rmul_tuple kq t l jt.toArray n dt0 sl0)
      ⟨go, rfl, ⟨_, go, rfl⟩, call_meets F.slot_tuple_mul ⟨_, go, rfl⟩ F.entry_tuple_mul (F.args_tuple_mul_2 _ _) (tuple_mulW l jt.toArray n dt0 sl0 kq t d0 d1 d2 (by omega) d4 (by rw [size_rep, List.size_toArray]; exact gfl)) ⟨go, ?_⟩⟩)
  rw [size_rep]
  refine ⟨.ref s.heap.objs.size, _, J.laid (t' := s.toks) (o := .frz { cls := .type "tuple", data := .seq (List.replicate kq.toNat jt).flatten.toArray } (.tup (List.replicate kq.toNat zs).flatten)) (fun b ox q => Heap.get?_push_of_some _ q) (Nat.le_refl _) ?_, rfl, q _ _ (J.hok.fresh (Nat.le_refl _)) rfl⟩
  exact ⟨Heap.get?_push_size _ rfl, by rw [PyProof.Rows.lm_len_rep_flat, sizeLine_eq]; have b1 : kq.toNat * zs.length ≤ 1000 * 1000 := Nat.mul_le_mul (by omega) gz; omega, _, r.rep kq.toNat, IsTup.new _ _⟩
theorem tup_mulE (l : Addr) (n : Nat) (dd : Option Addr) (sl : Array (Option Value)) (x : Int) (u : Tok) (c0 : (decide (x < -(2 ^ 63)) || decide (x ≥ 2 ^ 63)) = false) :
    Meets (Builtin.«tuple.__mul__» ⟨[.ref l, .int x u], []⟩) (fun _ R s => s.heap.get? l = some { cls := .type "tuple", dict := dd, data := .seq #[] n, slots := sl } ∧ R (.ok (.ret (Value.ref l))) s) :=
  .of_wp fun prog w A R s h => by
    obtain ⟨hp, g, d, tk, os⟩ := s
    obtain ⟨hl, h⟩ := h
    have f1 := AutoSeq1.idx_int
    wp_walk using wpAny_loadPart' hl
    refine wpAny_ite_false (decide_eq_false (by rw [c0]; exact Bool.false_ne_true)) ?_
    wp_walk using wpAny_loadPart' hl
    exact ⟨_, rfl, h⟩
def rRepE (K : PySem.W.Frag) : R2 := fun x y H Q => ∃ l k, x = .ref l ∧ y = .int k ∧ SqT K H l [] ∧ 2 ≤ k ∧ k ≤ 1000 ∧ Q (.ref l) H
theorem op_repE : OpR X (binaryOp .Mult) (rRepE X.K) := by
  intro pins s σ H x y v u Q J rx ry h
  obtain ⟨l, kq, rfl, rfl, gT0, h1, h2, q⟩ := h
  cases rx
  obtain ⟨t, rfl⟩ := ry
  obtain ⟨jt, r, ⟨⟨cl0, dt0, da0, sl0⟩, go, hc, n, hd⟩, hs⟩ := J.tuple gT0
  simp only at hc hd ⊢
  subst hc hd
  have gn : jt = [] := List.length_eq_zero_iff.mp r.length.symm
  subst gn
  have d0 : (decide (kq < -(2 ^ 63)) || decide (kq ≥ 2 ^ 63)) = false := by
    rw [decide_eq_false (show ¬ kq < -(2 ^ 63) by omega), decide_eq_false (show ¬ kq ≥ 2 ^ 63 by omega)] <;> rfl
  refine wpAny_binaryOp_repeat_ref (T := "tuple") (U := "int") (by decide) ⟨_, go, rfl⟩ (fun s' => typeIs_int s' kq t) noFill_tuple_mul F.fills_int_mul F.slot_int_rmul repeat_tuple F.slot_int_index.lookup
    (call_meets F.slot_int_rmul (typeIs_int s kq t) F.entry_int_rmul (F.args_int_rmul_2 _ _) (int_rmul_tuple kq t l #[] n dt0 sl0)
      ⟨go, rfl, ⟨_, go, rfl⟩, call_meets F.slot_tuple_mul ⟨_, go, rfl⟩ F.entry_tuple_mul (F.args_tuple_mul_2 _ _) (tup_mulE l n dt0 sl0 kq t d0) ⟨go, ?_⟩⟩)
  exact ⟨.ref l, H, J, rfl, q⟩
theorem op_repZ : OpR X (binaryOp .Mult) fun x y H Q => ∃ l k xs, x = .ref l ∧ y = .int k ∧ SqT X.K H l xs ∧ 2 ≤ k ∧ k ≤ 1000 ∧ xs.length ≤ 1000 ∧ (xs = [] → Q (.ref l) H) ∧ (xs ≠ [] → NewT H (List.replicate k.toNat xs).flatten Q) := by
  intro pins s σ H x y v u Q J rx ry h
  obtain ⟨l, kq, zs, e1, e2, gT0, h1, h2, gz, q0, q1⟩ := h
  by_cases c : zs = []
  · subst c
    exact op_repE pins s σ H x y v u Q J rx ry ⟨l, kq, e1, e2, gT0, h1, h2, q0 rfl⟩
  · exact op_repN pins s σ H x y v u Q J rx ry ⟨l, kq, zs, e1, e2, gT0, c, h1, h2, gz, q1 c⟩
def rCatN (K : PySem.W.Frag) : R2 := fun x y H Q => ∃ a b xs ys, x = .ref a ∧ y = .ref b ∧ SqT K H a xs ∧ SqT K H b ys ∧ xs.length + ys.length ≤ sizeLine ∧
  (xs = [] → Q (.ref b) H) ∧ (xs ≠ [] → ys = [] → Q (.ref a) H) ∧ (xs ≠ [] → ys ≠ [] → NewT H (xs ++ ys) Q)
theorem op_catN : OpR X (binaryOp .Add) (rCatN X.K) := by
  intro pins s σ H x y v u Q J rx ry h
  obtain ⟨a, b, zs, ws, rfl, rfl, ha, hb, gz, q0, q1, q2⟩ := h
  cases rx
  cases ry
  obtain ⟨jt, r1, p1, _⟩ := J.tuple ha
  obtain ⟨jt2, r2, p2, _⟩ := J.tuple hb
  by_cases hx : zs = []
  · subst hx
    cases r1
    exact cat_tup0 p1 p2 ⟨.ref b, H, J, rfl, q0 rfl⟩
  · refine HT.cat_tup p1 p2 (fun z => hx (r1.nil_iff.mp z)) (fun z => ⟨.ref a, H, J, rfl, q1 hx (r2.nil_iff.mp z)⟩) (fun z => ?_) (by rw [← r1.length, ← r2.length]; exact gz)
    refine ⟨.ref s.heap.objs.size, _, J.laid (t' := s.toks) (o := .frz { cls := .type "tuple", data := .seq (jt ++ jt2).toArray } (.tup (zs ++ ws))) (fun _ _ q => Heap.get?_push_of_some _ q) (Nat.le_refl _) ?_, rfl, q2 hx (fun w => z (r2.nil_iff.mpr w)) _ _ (J.hok.fresh (Nat.le_refl _)) rfl⟩
    exact ⟨Heap.get?_push_size _ rfl, by rw [List.length_append]; exact gz, _, r1.append r2, IsTup.new _ _⟩
def rSlN (K : PySem.W.Frag) : V → Option Int → Option Int → Hp → VK → Prop := fun x lo hi H Q => ∃ a xs, x = .ref a ∧ SqT K H a xs ∧
  (HT.sIx xs.length 0 lo = 0 ∧ HT.sIx xs.length xs.length hi = xs.length → Q (.ref a) H) ∧ (¬ (HT.sIx xs.length 0 lo = 0 ∧ HT.sIx xs.length xs.length hi = xs.length) → NewT H (cutV xs lo hi) Q)
theorem sl_tupN : SlR X (rSlN X.K) := by
  intro pins s σ H x v vl vu lo hi sl Q J rx hs pl pu h
  obtain ⟨a, zs, rfl, hx, q1, q2⟩ := h
  cases rx
  obtain ⟨jt, r, ht, gz⟩ := J.tuple hx
  have gl : jt.toArray.size = zs.length := by rw [List.size_toArray]; exact r.length.symm
  refine ⟨"tuple", _, PyProof.Rows.slot_tuple_getitem.lookup, ht.typeIs, ?_⟩
  by_cases hw : HT.sIx zs.length 0 lo = 0 ∧ HT.sIx zs.length zs.length hi = zs.length
  · exact getItem_tuple_whole ht hs pl pu (by rw [gl]; exact hw) ⟨.ref a, H, J, rfl, q1 hw⟩
  · refine HT.getItem_tuple_cut ht hs pl pu (by rw [gl]; exact hw) ?_ (by rw [gl]; exact gz)
    rw [gl]
    refine ⟨.ref s.heap.objs.size, _, J.laid (t' := s.toks) (o := .frz { cls := .type "tuple", data := .seq ((jt.drop (HT.sIx zs.length 0 lo)).take (HT.sIx zs.length zs.length hi - HT.sIx zs.length 0 lo)).toArray } (.tup (cutV zs lo hi))) (fun _ _ q => Heap.get?_push_of_some _ q) (Nat.le_refl _) ?_, rfl, q2 hw _ _ (J.hok.fresh (Nat.le_refl _)) rfl⟩
    exact ⟨Heap.get?_push_size _ rfl, Nat.le_trans (cutV_length zs lo hi) gz, _, (r.drop (HT.sIx zs.length 0 lo)).take (HT.sIx zs.length zs.length hi - HT.sIx zs.length 0 lo), IsTup.new _ _⟩
theorem call_tupleN : CallR X (.type "tuple") (fun xs H Q => ∃ p ys, xs = [.ref p] ∧ ((SqL X.K H p ys ∧ NewT H ys Q) ∨ (SqT X.K H p ys ∧ Q (.ref p) H))) := by
  intro pins s σ H xs us Q J r h
  obtain ⟨p, zs, rfl, h⟩ := h
  obtain ⟨u, rfl, rx⟩ := vals1 r
  cases rx
  rcases h with ⟨gq, q⟩ | ⟨gq, q⟩
  · obtain ⟨jt, r', pl, gz⟩ := J.list gq
    have gl := r'.length
    refine call_tuple_list pl.isList (fun h' kp => ?_) (by simp only [List.size_toArray] <;> omega)
    have J1 : Inv X pins σ H { s with heap := h' } := J.kept (t' := s.toks) kp
    exact ⟨.ref h'.objs.size, _, J1.laid (t' := s.toks) (o := .frz { cls := .type "tuple", data := .seq jt.toArray } (.tup zs)) (fun b o e => Heap.get?_push_of_some _ e) (Nat.le_refl _) ⟨Heap.get?_push_size _ rfl, gz, jt, r', IsTup.new _ _⟩, rfl, q _ _ (J1.hok.fresh (Nat.le_refl _)) rfl⟩
  · obtain ⟨jt, r', pl, gz⟩ := J.tuple gq
    exact call_tuple_same pl ⟨.ref p, H, J, rfl, q⟩
def tTupRgN (te : L2.St → Hp → (Int → Int → Hp → Prop) → Prop) : TE := fun σ H Q => te σ H fun a b H1 => RgOk a b ∧ NewT H1 (rgV a b) Q
theorem pe_tupRgN {e : Expr} {te : L2.St → Hp → (Int → Int → Hp → Prop) → Prop} {p pos : Pos} (hc : X.calm = true) (hg : Gl X "tuple") (hm : X.mg "tuple" = none) (he : PRg X e te) (na : starEach [e] X.env = (false, eval e X.env) :: starEach [] X.env := by rfl) : PE X (.Call (.Name "tuple" p) [e] [] pos) (tTupRgN te) := by
  refine ⟨fun pins s σ H Q J gq => ?_⟩
  refine Call_ (ld_blt J hg hm boot_tuple (PyProof.Rows.callWith_type1 (args_cons (thn (he pins s σ H _ J gq) fun x s1 ⟨r, a, b, t, u, v, H1, ex, hr, J1, ok, q⟩ => args_nil ?_) na) na))
  subst ex
  obtain ⟨b1, b2, b3, b4, b5⟩ := ok
  refine call_tuple_range (n := (b - a).toNat) (J1.ok.hd hc) hr (small_one b1 b2 b3 b4) (rangeSize_nat a b) b5 fun h' tk ac hk hi => ?_
  have J2 : Inv X pins σ H1 { s1 with heap := h', toks := tk } := J1.kept hk
  exact ⟨.ref h'.objs.size, _, J2.laid (t' := tk) (o := .frz { cls := .type "tuple", data := .seq ac } (.tup (rgV a b))) (fun c o e => Heap.get?_push_of_some _ e) (Nat.le_refl _)
    ⟨Heap.get?_push_size _ rfl, by rw [rgV_length, sizeLine_eq]; omega, ac.toList, vals_rg hi, by rw [Array.toArray_toList]; exact IsTup.new _ _⟩, rfl, q _ _ (J2.hok.fresh (Nat.le_refl _)) rfl⟩
def tTupN (t : TA) : TE := fun σ H Q => t σ H fun xs H1 => xs.length ≤ sizeLine ∧ NewT H1 xs Q
theorem pe_tupN {es : List Expr} {t : TA} {pos : Pos} {x1} (h : PA X es t) : PE X (.Tuple es x1 pos) (tTupN t) := by
  refine ⟨fun pins s σ H Q J gq => ?_⟩
  refine wpAny_Tuple_spliced (thn (h.run pos pins s σ H _ J gq) fun us s1 ⟨zs, H1, J1, r, z, q⟩ => ⟨by rw [← r.length]; exact z, ?_⟩)
  exact ⟨.ref s1.heap.objs.size, _, J1.laid (t' := s1.toks) (o := .frz { cls := .type "tuple", data := .seq us.toArray } (.tup zs)) (fun b u e => Heap.get?_push_of_some _ e) (Nat.le_refl _) ⟨Heap.get?_push_size _ rfl, z, us, r, ⟨_, Heap.get?_push_size _ rfl, rfl, _, rfl⟩⟩, rfl, q _ _ (J1.hok.fresh (Nat.le_refl _)) rfl⟩
end
mutual
/-- v stands for d in H, by objects outside A -/
inductive Rp (A : Addr → Prop) (H : Hp) : V → D → Prop
  | non : Rp A H .non .none
  | bl (b : Bool) : Rp A H (.bl b) (.bool b)
  | int (i : Int) : Rp A H (.int i) (.int i)
  | str (x : Str) : Rp A H (.str x) (.str x)
  | lst {a : Addr} {xs : List V} {ds : List D} : ¬ A a → Rd H a (.lst xs) → xs.length ≤ sizeLine → RpA A H xs ds → Rp A H (.ref a) (.list ds)
  | tup {a : Addr} {xs : List V} {ds : List D} : ¬ A a → Tp H a xs → xs.length ≤ sizeLine → RpA A H xs ds → Rp A H (.ref a) (.tuple ds)
  | dct {a : Addr} {ks : List (Key × V)} {kvs : List (D × D)} : ¬ A a → Rd H a (.dK ks) → RpK A H ks kvs → Rp A H (.ref a) (.dict kvs)
  | dtt {a : Addr} {ks : List TK} {kvs : List (D × D)} : ¬ A a → H a = some (dTX a ks) → ks ≠ [] → RpT A H ks kvs → Rp A H (.ref a) (.dict kvs)
inductive RpA (A : Addr → Prop) (H : Hp) : List V → List D → Prop
  | nil : RpA A H [] []
  | cons {v : V} {vs : List V} {d : D} {ds : List D} : Rp A H v d → RpA A H vs ds → RpA A H (v :: vs) (d :: ds)
inductive RpK (A : Addr → Prop) (H : Hp) : List (Key × V) → List (D × D) → Prop
  | nil : RpK A H [] []
  | cons {k : Key} {v : V} {ks : List (Key × V)} {d : D} {kvs : List (D × D)} : Rp A H v d → RpK A H ks kvs → RpK A H ((k, v) :: ks) ((keyD k, d) :: kvs)
inductive RpT (A : Addr → Prop) (H : Hp) : List TK → List (D × D) → Prop
  | nil : RpT A H [] []
  | cons {k : List Int} {b : Addr} {v : V} {ks : List TK} {d : D} {kvs : List (D × D)} : ¬ A b → Tp H b (k.map V.int) → Rp A H v d → RpT A H ks kvs → RpT A H ((k, b, v) :: ks) ((.tuple (k.map .int), d) :: kvs)
end
section
variable {A B : Addr → Prop} {H H' : Hp}
theorem Rd.same {a : Addr} {u : HO} (s : Same H H') (h : Rd H a u) : Rd H' a u := by
  rcases h with h | ⟨o, h⟩
  · exact .inl (s _ _ h)
  · exact .inr ⟨o, s _ _ h⟩
mutual
theorem Rp.same (s : Same H H') : ∀ (d : D) (v : V), Rp A H v d → Rp A H' v d
  | .none, _, .non => .non
  | .bool _, _, .bl b => .bl b
  | .int _, _, .int i => .int i
  | .str _, _, .str x => .str x
  | .list ds, _, .lst n h z r => .lst n (Rd.same s h) z (RpA.same s ds _ r)
  | .tuple ds, _, .tup n h z r => .tup n (h.same s) z (RpA.same s ds _ r)
  | .dict kvs, _, .dct n h r => .dct n (Rd.same s h) (RpK.same s kvs _ r)
  | .dict kvs, _, .dtt n h z r => .dtt n (s _ _ h) z (RpT.same s kvs _ r)
theorem RpA.same (s : Same H H') : ∀ (ds : List D) (vs : List V), RpA A H vs ds → RpA A H' vs ds
  | [], _, .nil => .nil
  | d :: ds, _, .cons h r => .cons (Rp.same s d _ h) (RpA.same s ds _ r)
theorem RpK.same (s : Same H H') : ∀ (kvs : List (D × D)) (ks : List (Key × V)), RpK A H ks kvs → RpK A H' ks kvs
  | [], _, .nil => .nil
  | (_, d) :: kvs, _, .cons h r => .cons (Rp.same s d _ h) (RpK.same s kvs _ r)
theorem RpT.same (s : Same H H') : ∀ (kvs : List (D × D)) (ks : List TK), RpT A H ks kvs → RpT A H' ks kvs
  | [], _, .nil => .nil
  | (_, d) :: kvs, _, .cons n t h r => .cons n (t.same s) (Rp.same s d _ h) (RpT.same s kvs _ r)
end
mutual
theorem Rp.dp {K : PySem.W.Frag} : ∀ (d : D) (v : V), noD d = true → Rp A H v d → Dp K H v d
  | .none, _, _, .non => .non
  | .bool _, _, _, .bl b => .bl b
  | .int _, _, _, .int i => .int i
  | .str _, _, _, .str x => .str x
  | .list ds, _, p, .lst n h z r => .lst (.inl h) (RpA.dp ds _ (by simpa [noD] using p) r)
  | .tuple ds, _, p, .tup n h z r => .tup h.sq (RpA.dp ds _ (by simpa [noD] using p) r)
  | .dict _, _, p, _ => by simp [noD] at p
theorem RpA.dp {K : PySem.W.Frag} : ∀ (ds : List D) (vs : List V), noDs ds = true → RpA A H vs ds → DpAll K H vs ds
  | [], _, _, .nil => .nil
  | d :: ds, _, p, .cons h r => by
    simp only [noDs, Bool.and_eq_true] at p
    exact .cons (Rp.dp d _ p.1 h) (RpA.dp ds _ p.2 r)
end
theorem noD_shaped {d : D} (h : SeqAt.shaped d = true) : noD d = true := noD_of d (SeqAt.canLay_of_shaped h)
mutual
/-- fewer to be avoided -/
theorem Rp.less (s : ∀ a, B a → A a) : ∀ (d : D) (v : V), Rp A H v d → Rp B H v d
  | .none, _, .non => .non
  | .bool _, _, .bl b => .bl b
  | .int _, _, .int i => .int i
  | .str _, _, .str x => .str x
  | .list ds, _, .lst n h z r => .lst (fun q => n (s _ q)) h z (RpA.less s ds _ r)
  | .tuple ds, _, .tup n h z r => .tup (fun q => n (s _ q)) h z (RpA.less s ds _ r)
  | .dict kvs, _, .dct n h r => .dct (fun q => n (s _ q)) h (RpK.less s kvs _ r)
  | .dict kvs, _, .dtt n h z r => .dtt (fun q => n (s _ q)) h z (RpT.less s kvs _ r)
theorem RpA.less (s : ∀ a, B a → A a) : ∀ (ds : List D) (vs : List V), RpA A H vs ds → RpA B H vs ds
  | [], _, .nil => .nil
  | d :: ds, _, .cons h r => .cons (Rp.less s d _ h) (RpA.less s ds _ r)
theorem RpK.less (s : ∀ a, B a → A a) : ∀ (kvs : List (D × D)) (ks : List (Key × V)), RpK A H ks kvs → RpK B H ks kvs
  | [], _, .nil => .nil
  | (_, d) :: kvs, _, .cons h r => .cons (Rp.less s d _ h) (RpK.less s kvs _ r)
theorem RpT.less (s : ∀ a, B a → A a) : ∀ (kvs : List (D × D)) (ks : List TK), RpT A H ks kvs → RpT B H ks kvs
  | [], _, .nil => .nil
  | (_, d) :: kvs, _, .cons n t h r => .cons (fun q => n (s _ q)) t (Rp.less s d _ h) (RpT.less s kvs _ r)
end
mutual
/-- a value without lists avoids all lists -/
theorem Rp.flat (s : ∀ a, B a → A a ∨ MutO H a) : ∀ (d : D) (v : V), PC.flat d = true → Rp A H v d → Rp B H v d
  | .none, _, _, .non => .non
  | .bool _, _, _, .bl b => .bl b
  | .int _, _, _, .int i => .int i
  | .str _, _, _, .str x => .str x
  | .list ds, _, f, .lst n h z r => by simp [PC.flat] at f
  | .dict ds, _, f, .dct n h r => by simp [PC.flat] at f
  | .dict ds, _, f, .dtt n h z r => by simp [PC.flat] at f
  | .tuple ds, _, f, .tup n h z r => by
    refine .tup (fun q => ?_) h z (RpA.flat s ds _ (by simpa [PC.flat] using f) r)
    rcases s _ q with q | ⟨xs, q⟩ | ⟨ks, q⟩ | ⟨ks, q⟩
    · exact n q
    · exact h.notL q
    · exact h.notD q
    · exact h.notX q
theorem RpA.flat (s : ∀ a, B a → A a ∨ MutO H a) : ∀ (ds : List D) (vs : List V), PC.flatAll ds = true → RpA A H vs ds → RpA B H vs ds
  | [], _, _, .nil => .nil
  | d :: ds, _, f, .cons h r => by
    simp only [PC.flatAll, Bool.and_eq_true] at f
    exact .cons (Rp.flat s d _ f.1 h) (RpA.flat s ds _ f.2 r)
end
theorem RpK.flat (s : ∀ a, B a → A a ∨ MutO H a) : ∀ (kvs : List (D × D)) (ks : List (Key × V)), PC.flatK kvs = true → RpK A H ks kvs → RpK B H ks kvs
  | [], _, _, .nil => .nil
  | (_, d) :: kvs, _, f, .cons h r => by
    simp only [PC.flatK, Bool.and_eq_true] at f
    exact .cons (Rp.flat s d _ f.1 h) (RpK.flat s kvs _ f.2 r)
theorem RpT.flat (s : ∀ a, B a → A a ∨ MutO H a) : ∀ (kvs : List (D × D)) (ks : List TK), PC.flatK kvs = true → RpT A H ks kvs → RpT B H ks kvs
  | [], _, _, .nil => .nil
  | (_, d) :: kvs, _, f, .cons n t h r => by
    simp only [PC.flatK, Bool.and_eq_true] at f
    refine .cons (fun q => ?_) t (Rp.flat s d _ f.1 h) (RpT.flat s kvs _ f.2 r)
    rcases s _ q with q | ⟨xs, q⟩ | ⟨ks, q⟩ | ⟨ks, q⟩
    · exact n q
    · exact t.notL q
    · exact t.notD q
    · exact t.notX q
theorem RpA.length : ∀ {ds : List D} {vs : List V}, RpA A H vs ds → vs.length = ds.length
  | [], _, .nil => rfl
  | _ :: _, _, .cons _ r => by simp [RpA.length r]
theorem RpA.append : ∀ {ds es : List D} {vs ws : List V}, RpA A H vs ds → RpA A H ws es → RpA A H (vs ++ ws) (ds ++ es)
  | [], _, _, _, .nil, s => s
  | _ :: _, _, _, _, .cons h r, s => .cons h (RpA.append r s)
theorem RpA.get : ∀ {ds : List D} {vs : List V} {i : Nat} {d : D}, RpA A H vs ds → ds[i]? = some d → ∃ v, vs[i]? = some v ∧ Rp A H v d
  | [], _, _, _, .nil, q => by simp at q
  | d :: _, _, 0, e, .cons h r, q => by
    simp at q; subst q; exact ⟨_, rfl, h⟩
  | _ :: ds, _, i + 1, d, .cons h r, q => by
    obtain ⟨v, a, b⟩ := RpA.get (i := i) (d := d) r (by simpa using q)
    exact ⟨v, by simpa using a, b⟩
theorem RpA.getV : ∀ {ds : List D} {vs : List V} {i : Nat} {v : V}, RpA A H vs ds → vs[i]? = some v → ∃ d, ds[i]? = some d ∧ Rp A H v d
  | [], _, _, _, .nil, q => by simp at q
  | d :: _, _, 0, e, .cons h r, q => by
    simp at q; subst q; exact ⟨_, rfl, h⟩
  | _ :: ds, _, i + 1, d, .cons h r, q => by
    obtain ⟨v, a, b⟩ := RpA.getV (i := i) (v := d) r (by simpa using q)
    exact ⟨v, by simpa using a, b⟩
theorem RpA.drop : ∀ {ds : List D} {vs : List V} (n : Nat), RpA A H vs ds → RpA A H (vs.drop n) (ds.drop n)
  | _, _, 0, r => r
  | _, _, _ + 1, .nil => .nil
  | _, _, n + 1, .cons _ r => RpA.drop n r
theorem RpA.take : ∀ {ds : List D} {vs : List V} (n : Nat), RpA A H vs ds → RpA A H (vs.take n) (ds.take n)
  | _, _, 0, r => .nil
  | _, _, _ + 1, .nil => .nil
  | _, _, n + 1, .cons h r => .cons h (RpA.take n r)
theorem RpA.set {v : V} {d : D} (q : Rp A H v d) : ∀ {ds : List D} {vs : List V} (n : Nat), RpA A H vs ds → RpA A H (vs.set n v) (ds.set n d)
  | _, _, _, .nil => .nil
  | _, _, 0, .cons _ r => .cons q r
  | _, _, n + 1, .cons h r => .cons h (RpA.set q n r)
theorem RpA.erase : ∀ {ds : List D} {vs : List V} (n : Nat), RpA A H vs ds → RpA A H (vs.eraseIdx n) (ds.eraseIdx n)
  | _, _, _, .nil => .nil
  | _, _, 0, .cons _ r => r
  | _, _, n + 1, .cons h r => .cons h (RpA.erase n r)
theorem RpA.reverse : ∀ {ds : List D} {vs : List V}, RpA A H vs ds → RpA A H vs.reverse ds.reverse
  | _, _, .nil => .nil
  | d :: ds, v :: vs, .cons h r => by
    rw [List.reverse_cons, List.reverse_cons]
    exact (RpA.reverse r).append (.cons h .nil)
theorem RpA.rep {ds : List D} {vs : List V} (r : RpA A H vs ds) : ∀ k : Nat, RpA A H (List.replicate k vs).flatten (List.replicate k ds).flatten
  | 0 => .nil
  | k + 1 => by
    rw [List.replicate_succ, List.flatten_cons, List.replicate_succ, List.flatten_cons]
    exact r.append (RpA.rep r k)
theorem RpA.ofInts : ∀ {ns : List Int}, RpA A H (ns.map V.int) (ns.map PyData.int)
  | [] => .nil
  | n :: ns => .cons (.int n) RpA.ofInts
theorem asInts_some : ∀ {ds : List D} {ns : List Int}, asInts ds = some ns → ds = ns.map PyData.int
  | [], ns, h => by cases h; rfl
  | .int i :: r, ns, h => by
    simp only [asInts, Option.map_eq_some_iff] at h
    obtain ⟨ms, h, rfl⟩ := h
    rw [asInts_some h]; rfl
  | .none :: _, _, h => by simp [asInts] at h
  | .bool _ :: _, _, h => by simp [asInts] at h
  | .str _ :: _, _, h => by simp [asInts] at h
  | .list _ :: _, _, h => by simp [asInts] at h
  | .tuple _ :: _, _, h => by simp [asInts] at h
  | .dict _ :: _, _, h => by simp [asInts] at h
theorem RpA.ints : ∀ {ns : List Int} {vs : List V}, RpA A H vs (ns.map PyData.int) → vs = ns.map V.int
  | [], _, .nil => rfl
  | n :: ns, _, .cons h r => by
    cases h
    rw [RpA.ints r]; rfl
theorem RpA.asInts {ds : List D} {ns : List Int} {vs : List V} (h : RpA A H vs ds) (e : PC.asInts ds = some ns) : vs = ns.map V.int := by
  rw [asInts_some e] at h
  exact h.ints
theorem asBools_some : ∀ {ds : List D} {ns : List Bool}, asBools ds = some ns → ds = ns.map PyData.bool
  | [], ns, h => by cases h; rfl
  | .bool i :: r, ns, h => by
    simp only [asBools, Option.map_eq_some_iff] at h
    obtain ⟨ms, h, rfl⟩ := h
    rw [asBools_some h]; rfl
  | .none :: _, _, h => by simp [asBools] at h
  | .int _ :: _, _, h => by simp [asBools] at h
  | .str _ :: _, _, h => by simp [asBools] at h
  | .list _ :: _, _, h => by simp [asBools] at h
  | .tuple _ :: _, _, h => by simp [asBools] at h
  | .dict _ :: _, _, h => by simp [asBools] at h
theorem RpA.bools : ∀ {ns : List Bool} {vs : List V}, RpA A H vs (ns.map PyData.bool) → vs = ns.map V.bl
  | [], _, .nil => rfl
  | n :: ns, _, .cons h r => by
    cases h
    rw [RpA.bools r]; rfl
end
/-- what is avoided stands in the heap -/
abbrev Trk (A : Addr → Prop) (H : Hp) : Prop := ∀ a, A a → H a ≠ none
theorem Trk.same {A : Addr → Prop} {H H' : Hp} (t : Trk A H) (s : Same H H') : Trk A H' := fun a q e => t a q (by
  cases z : H a with
  | none => rfl
  | some o => rw [s a o z] at e; cases e)
theorem same_upd {H : Hp} {p : Addr} {o : HO} (h : H p = none) : Same H (upd H p o) := fun b x e => by
  rw [upd_ne (ne_of_none e h)]
  exact e
theorem Trk.new {A : Addr → Prop} {H : Hp} {p : Addr} (t : Trk A H) (h : H p = none) : ¬ A p := fun q => t p q h
section
variable {A : Addr → Prop} {H : Hp}
theorem Rp.newL {p : Addr} {xs : List V} {ds : List D} (t : Trk A H) (h : H p = none) (z : xs.length ≤ sizeLine) (r : RpA A H xs ds) : Rp A (upd H p (.lst xs)) (.ref p) (.list ds) :=
  .lst (t.new h) (.inl upd_same) z (RpA.same (same_upd h) _ _ r)
theorem Rp.newT {p : Addr} {o : Obj} {xs : List V} {ds : List D} (t : Trk A H) (h : H p = none) (hd : o.dict = none) (z : xs.length ≤ sizeLine) (r : RpA A H xs ds) : Rp A (upd H p (.frz o (.tup xs))) (.ref p) (.tuple ds) :=
  .tup (t.new h) (tp_new hd) z (RpA.same (same_upd h) _ _ r)
end
/-- what is asked of an operation's answer -/
def Aft (A : Addr → Prop) (H : Hp) (r : R D) (Q : VK) : Prop := ∃ d, r = .ok d ∧ ∀ v H', Same H H' → Rp A H' v d → Q v H'
def rOp (f : D → D → R D) : R2 := fun x y H Q => ∃ A a b, Trk A H ∧ Rp A H x a ∧ Rp A H y b ∧ Aft A H (f a b) Q
theorem Aft.of {A : Addr → Prop} {H : Hp} {d : D} {Q : VK} (h : Aft A H (.ok d) Q) : ∀ v H', Same H H' → Rp A H' v d → Q v H' := by
  obtain ⟨e, h1, h2⟩ := h
  cases h1
  exact h2
theorem Aft.st {A : Addr → Prop} {H : Hp} {Q : VK} {G : Prop} (h : Aft A H .st Q) : G := by
  obtain ⟨e, h1, h2⟩ := h
  cases h1
theorem Aft.ite {A : Addr → Prop} {H : Hp} {Q : VK} {c : Prop} [Decidable c] {r : R D} (h : Aft A H (if c then r else .st) Q) : c ∧ Aft A H r Q := by
  by_cases q : c
  · rw [if_pos q] at h; exact ⟨q, h⟩
  · rw [if_neg q] at h; exact h.st
section
variable {X : Cx}
/-- list + list, any that are read -/
theorem op_catR : OpR X (binaryOp .Add) (fun x y H Q => ∃ l b xs zs, x = .ref l ∧ y = .ref b ∧ Rd H l (.lst xs) ∧ Rd H b (.lst zs) ∧ xs.length + zs.length ≤ sizeLine ∧ ∀ p, H p = none → Q (.ref p) (upd H p (.lst (xs ++ zs)))) := by
  intro pins s σ H x y v u Q I rx ry h
  obtain ⟨l, b, xs, zs, rfl, rfl, hH, hB, hz, q⟩ := h
  cases rx
  cases ry
  obtain ⟨z, its, n, r, e⟩ := hH.ok I.hok
  obtain ⟨z2, its2, n2, r2, e2⟩ := hB.ok I.hok
  have hl := r.length
  have hl2 := r2.length
  refine PySem.P.add_list e e2 ?_ (by rw [List.size_toArray, List.size_toArray]; omega)
  have ea : its.toArray ++ its2.toArray = (its ++ its2).toArray := by simp
  rw [ea]
  exact ⟨.ref _, _, I.lnew (t' := s.toks) (r.append r2) (by rw [List.length_append]; omega), rfl, q _ I.fresh⟩
theorem op_repR : OpR X (binaryOp .Mult) (fun x y H Q => ∃ l k xs, x = .ref l ∧ y = .int k ∧ Rd H l (.lst xs) ∧ -(2 ^ 63) ≤ k ∧ k < 2 ^ 63 ∧ xs.length * k.toNat ≤ sizeLine ∧
    ∀ p, H p = none → Q (.ref p) (upd H p (.lst (List.replicate k.toNat xs).flatten))) := by
  intro pins s σ H x y v u Q I rx ry h
  obtain ⟨l, k, xs, rfl, rfl, hH, h1, h2, hz, q⟩ := h
  cases rx
  obtain ⟨t, rfl⟩ := ry
  obtain ⟨z, its, n, r, e⟩ := hH.ok I.hok
  have hl := r.length
  have hlen : its.toArray.size * k.toNat ≤ sizeLine := by rw [List.size_toArray, ← hl]; exact hz
  have hcap : ¬ its.toArray.size * k.toNat > (2 ^ 63 - 1) / 8 := by
    have : (sizeLine : Nat) ≤ (2 ^ 63 - 1) / 8 := by decide
    omega
  have hfit : ¬ (!Builtin.List.listFitsIndex k) = true := by
    rw [fitsIndex_both h1 h2]
    exact Bool.false_ne_true
  have hlong : ¬ Builtin.List.listTooLong (its.toArray.size * k.toNat) = true := by
    rw [notLongL hlen]
    exact Bool.false_ne_true
  have hnew : List.foldl (fun x1 x2 => x1 ++ x2) #[] (List.replicate (if its.toArray.isEmpty = true then 0 else k.toNat) its.toArray) = (List.replicate k.toNat its).flatten.toArray := by
    have f0 : ∀ m : Nat, List.foldl (fun x1 x2 => x1 ++ x2) #[] (List.replicate m its.toArray) = (List.replicate m its).flatten.toArray := fun m => by
      have := foldl_rep its m []
      rw [List.nil_append] at this
      exact this
    rw [f0]
    cases its with
    | nil => simp
    | cons a r' => rw [if_neg (by simp)]
  refine wpAny_binaryOp_repeat_ref (T := "list") (U := "int") (by decide) ⟨_, e, rfl⟩ (fun s' => typeIs_int s' k t) noFill_list_mul F.fills_int_mul F.slot_int_rmul repeat_list F.slot_int_index.lookup
    (call_meets F.slot_int_rmul (typeIs_int s k t) F.entry_int_rmul (F.args_int_rmul_2 _ _) (int___rmul___int_list k t l its.toArray n)
      ⟨e, rfl, ⟨_, e, rfl⟩, call_meets F.slot_list_mul ⟨_, e, rfl⟩ F.entry_list_mul (F.args_list_mul_2 _ _) (AutoListH.list___mul___list_int_3 l its.toArray n k t hfit hcap hlong) ⟨e, ?_⟩⟩)
  rw [hnew]
  exact ⟨.ref _, _, I.lnew (t' := s.toks) (r.rep k.toNat) (by rw [PyProof.Rows.lm_len_rep_flat, Nat.mul_comm]; exact hz), rfl, q _ I.fresh⟩
def opS : Op → Operator
  | .add => .Add
  | .sub => .Sub
  | .mul => .Mult
  | .div => .FloorDiv
  | .mod => .Mod
  | .pow => .Pow
theorem opOf_eq {o : Operator} {p : Op} (h : opOf o = some p) : o = opS p := by
  cases o <;> simp [opOf] at h <;> subst h <;> rfl
theorem op_mulD : OpR X (binaryOp .Mult) (rOp (evOp .mul)) := by
  intro pins s σ H x y v u Q I rx ry h
  obtain ⟨A, a, b, tr, ha, hb, hq⟩ := h
  cases ha with
  | int i => cases hb with
    | int j =>
      obtain ⟨c, hq⟩ := hq.ite
      have q := hq.of _ H (Same.refl H) (.int _)
      have c := mulOk_iff c
      rcases c with (c | c) | c
      · exact op_mul pins s σ H _ _ v u Q I rx ry ⟨i, j, rfl, rfl, .inl c, q⟩
      · exact op_mul pins s σ H _ _ v u Q I rx ry ⟨i, j, rfl, rfl, .inr c, q⟩
      · exact op_mulW pins s σ H _ _ v u Q I rx ry ⟨i, j, rfl, rfl, c, q⟩
    | _ => exact hq.st
  | lst n r z ra => cases hb with
    | int j =>
      obtain ⟨⟨c1, c2, c3⟩, hq⟩ := hq.ite
      rw [← ra.length] at c3
      exact op_repR pins s σ H _ _ v u Q I rx ry ⟨_, j, _, rfl, rfl, r, by omega, by omega, c3, fun p hp => hq.of _ _ (same_upd hp) (Rp.newL tr hp (by rw [PyProof.Rows.lm_len_rep_flat, Nat.mul_comm]; exact c3) (ra.rep _))⟩
    | _ => exact hq.st
  | tup n r z ra => cases hb with
    | int j =>
      obtain ⟨⟨c1, c2, c4⟩, hq⟩ := hq.ite
      rw [← ra.length] at c4
      refine op_repZ pins s σ H _ _ v u Q I rx ry ⟨_, j, _, rfl, rfl, r.sq, c1, c2, c4, fun e => ?_, fun _ p o hp hd => hq.of _ _ (same_upd hp) (Rp.newT tr hp hd ?_ (ra.rep _))⟩
      · subst e; cases ra
        have e0 : (List.replicate j.toNat ([] : List D)).flatten = [] := by simp
        rw [e0] at hq
        exact hq.of _ H (Same.refl H) (.tup n r z .nil)
      · rw [PyProof.Rows.lm_len_rep_flat, sizeLine_eq]
        have := Nat.mul_le_mul (show j.toNat ≤ 1000 by omega) c4
        omega
    | _ => exact hq.st
  | _ => cases hb <;> exact hq.st
theorem op_addD : OpR X (binaryOp .Add) (rOp (evOp .add)) := by
  intro pins s σ H x y v u Q I rx ry h
  obtain ⟨A, a, b, tr, ha, hb, hq⟩ := h
  cases ha with
  | int i => cases hb with
    | int j => exact op_add pins s σ H _ _ v u Q I rx ry ⟨i, j, rfl, rfl, hq.of _ H (Same.refl H) (.int _)⟩
    | _ => exact hq.st
  | str i => cases hb with
    | str j =>
      obtain ⟨c, hq⟩ := hq.ite
      exact op_add_str pins s σ H _ _ v u Q I rx ry ⟨i, j, rfl, rfl, c, hq.of _ H (Same.refl H) (.str _)⟩
    | _ => exact hq.st
  | lst n r z ra => cases hb with
    | lst n2 r2 z2 ra2 =>
      obtain ⟨c, hq⟩ := hq.ite
      rw [← ra.length, ← ra2.length] at c
      exact op_catR pins s σ H _ _ v u Q I rx ry ⟨_, _, _, _, rfl, rfl, r, r2, c, fun p hp => hq.of _ _ (same_upd hp) (Rp.newL tr hp (by rw [List.length_append]; exact c) (ra.append ra2))⟩
    | _ => exact hq.st
  | tup n r z ra => cases hb with
    | tup n2 r2 z2 ra2 =>
      obtain ⟨c, hq⟩ := hq.ite
      rw [← ra.length, ← ra2.length] at c
      refine op_catN pins s σ H _ _ v u Q I rx ry ⟨_, _, _, _, rfl, rfl, r.sq, r2.sq, c, fun e => ?_, fun _ e => ?_, fun _ _ p o hp hd => hq.of _ _ (same_upd hp) (Rp.newT tr hp hd (by rw [List.length_append]; exact c) (ra.append ra2))⟩
      · subst e; cases ra
        exact hq.of _ H (Same.refl H) (.tup n2 r2 z2 ra2)
      · subst e; cases ra2
        rw [List.append_nil] at hq
        exact hq.of _ H (Same.refl H) (.tup n r z ra)
    | _ => exact hq.st
  | _ => cases hb <;> exact hq.st
theorem op_D (o : Op) : OpR X (binaryOp (opS o)) (rOp (evOp o)) := by
  cases o with
  | add => exact op_addD
  | mul => exact op_mulD
  | sub =>
    intro pins s σ H x y v u Q I rx ry h
    obtain ⟨A, a, b, tr, ha, hb, hq⟩ := h
    cases ha with
    | int i => cases hb with
      | int j => exact op_sub pins s σ H _ _ v u Q I rx ry ⟨i, j, rfl, rfl, hq.of _ H (Same.refl H) (.int _)⟩
      | _ => exact hq.st
    | _ => cases hb <;> exact hq.st
  | div =>
    intro pins s σ H x y v u Q I rx ry h
    obtain ⟨A, a, b, tr, ha, hb, hq⟩ := h
    cases ha with
    | int i => cases hb with
      | int j =>
        obtain ⟨c, hq⟩ := hq.ite
        exact op_fdivW pins s σ H _ _ v u Q I rx ry ⟨i, j, rfl, rfl, c, hq.of _ H (Same.refl H) (.int _)⟩
      | _ => exact hq.st
    | _ => cases hb <;> exact hq.st
  | mod =>
    intro pins s σ H x y v u Q I rx ry h
    obtain ⟨A, a, b, tr, ha, hb, hq⟩ := h
    cases ha with
    | int i => cases hb with
      | int j =>
        obtain ⟨c, hq⟩ := hq.ite
        exact op_mod pins s σ H _ _ v u Q I rx ry ⟨i, j, rfl, rfl, c, hq.of _ H (Same.refl H) (.int _)⟩
      | _ => exact hq.st
    | _ => cases hb <;> exact hq.st
  | pow =>
    intro pins s σ H x y v u Q I rx ry h
    obtain ⟨A, a, b, tr, ha, hb, hq⟩ := h
    cases ha with
    | int i => cases hb with
      | int j =>
        obtain ⟨c, hq⟩ := hq.ite
        exact op_pow pins s σ H _ _ v u Q I rx ry ⟨i, j, rfl, rfl, c, hq.of _ H (Same.refl H) (.int _)⟩
      | _ => exact hq.st
    | _ => cases hb <;> exact hq.st
end
end PC
set_option Elab.async false
set_option linter.all false
namespace PC
open PySem PySem.Spec PyProof.Rows L2
def cmS : Cm → CmpOp
  | .eq => .Eq
  | .ne => .NotEq
  | .lt => .Lt
  | .le => .LtE
  | .gt => .Gt
  | .ge => .GtE
  | .in_ => .In
  | .nin => .NotIn
theorem cmOf_eq {o : CmpOp} {p : Cm} (h : cmOf o = some p) : o = cmS p := by
  cases o <;> simp [cmOf] at h <;> subst h <;> rfl
def rCm (f : D → D → R Bool) : R2 := fun x y H Q => ∃ A a b k, Rp A H x a ∧ Rp A H y b ∧ f a b = .ok k ∧ Q (.bl k) H
theorem scal_V {A : Addr → Prop} {H : Hp} {x y : V} {a b : D} (ha : Rp A H x a) (hb : Rp A H y b) (h : scalD a b = true) : L2.scal x y = true ∧ decide (x = y) = PyData.eqv a b := by
  cases ha <;> cases hb <;> simp [scalD] at h <;> refine ⟨rfl, ?_⟩ <;> simp [PyData.eqv, Bool.beq_eq_decide_eq, beq_iff_eq] <;> first | rfl | (rw [Bool.eq_iff_iff]; simp)
section
variable {X : Cx}
theorem op_eqX (hu : X.A.units + 64 < cLine) : OpR X (compareOp .Eq) (rCm eqD) := by
  intro pins s σ H x y v u Q I rx ry h
  obtain ⟨A, a, b, k, ha, hb, hk, q⟩ := h
  unfold eqD at hk
  split at hk
  · rename_i c
    cases hk
    rw [Bool.or_eq_true] at c
    by_cases c1 : scalD a b = true
    · obtain ⟨h1, h2⟩ := scal_V ha hb c1
      exact op_eq pins s σ H x y v u Q I rx ry ⟨h1, by rw [h2]; exact q⟩
    · have c2 := c.resolve_left c1
      rw [Bool.and_eq_true] at c2
      exact op_eqD hu pins s σ H x y v u Q I rx ry ⟨a, b, Rp.dp _ _ (noD_shaped c2.1) ha, Rp.dp _ _ (noD_shaped c2.2) hb, c2.1, c2.2, q⟩
  · cases hk
theorem notR_ok {r : R Bool} {k : Bool} (h : notR r = .ok k) : r = .ok (!k) := by
  cases r with
  | ok b => cases h; simp
  | ex c => cases h
  | st => cases h
theorem op_neX (hu : X.A.units + 64 < cLine) : OpR X (compareOp .NotEq) (rCm fun a b => notR (eqD a b)) := by
  intro pins s σ H x y v u Q I rx ry h
  obtain ⟨A, a, b, k, ha, hb, hk, q⟩ := h
  have hk := notR_ok hk
  have e0 : k = !(!k) := by simp
  unfold eqD at hk
  split at hk
  · rename_i c
    have e := R.ok.inj hk
    rw [e0, ← e] at q
    rw [Bool.or_eq_true] at c
    by_cases c1 : scalD a b = true
    · obtain ⟨h1, h2⟩ := scal_V ha hb c1
      exact op_ne pins s σ H x y v u Q I rx ry ⟨h1, by rw [h2]; exact q⟩
    · have c2 := c.resolve_left c1
      rw [Bool.and_eq_true] at c2
      exact op_neD hu pins s σ H x y v u Q I rx ry ⟨a, b, Rp.dp _ _ (noD_shaped c2.1) ha, Rp.dp _ _ (noD_shaped c2.2) hb, c2.1, c2.2, q⟩
  · cases hk
end
theorem lexAt_shift (e r : Nat → Bool) (z : Bool) : ∀ (k i : Nat), Ob.lexAt e r z (i + 1) k = Ob.lexAt (fun j => e (j + 1)) (fun j => r (j + 1)) z i k
  | 0, _ => rfl
  | k + 1, i => by
    rw [Ob.lexAt_succ, Ob.lexAt_succ, lexAt_shift e r z k (i + 1)]
theorem lex_lt : ∀ ns ms : List Int, Ob.lexAt (fun j => decide (ns.getD j 0 = ms.getD j 0)) (fun j => decide (ns.getD j 0 < ms.getD j 0)) (decide (ns.length < ms.length)) 0 (min ns.length ms.length) = HT.lexLt ns ms
  | [], [] => by simp [Ob.lexAt, HT.lexLt]
  | [], _ :: _ => by simp [Ob.lexAt, HT.lexLt]
  | _ :: _, [] => by simp [Ob.lexAt, HT.lexLt]
  | x :: ns, y :: ms => by
    have ih := lex_lt ns ms
    rw [HT.lexLt_cons, ← ih]
    simp only [List.length_cons, Nat.succ_min_succ, Ob.lexAt_succ, List.getD_cons_zero, decide_eq_true_eq]
    rw [lexAt_shift]
    simp
theorem lex_gt : ∀ ns ms : List Int, Ob.lexAt (fun j => decide (ns.getD j 0 = ms.getD j 0)) (fun j => decide (ms.getD j 0 < ns.getD j 0)) (decide (ns.length > ms.length)) 0 (min ns.length ms.length) = HT.lexLt ms ns
  | [], [] => by simp [Ob.lexAt, HT.lexLt]
  | [], _ :: _ => by simp [Ob.lexAt, HT.lexLt]
  | _ :: _, [] => by simp [Ob.lexAt, HT.lexLt]
  | x :: ns, y :: ms => by
    have ih := lex_gt ns ms
    rw [HT.lexLt_cons, ← ih]
    simp only [List.length_cons, Nat.succ_min_succ, Ob.lexAt_succ, List.getD_cons_zero, decide_eq_true_eq]
    rw [lexAt_shift]
    by_cases q : x = y
    · simp [q]
    · simp [q, Ne.symm q]
theorem lex_le : ∀ ns ms : List Int, Ob.lexAt (fun j => decide (ns.getD j 0 = ms.getD j 0)) (fun j => decide (ns.getD j 0 ≤ ms.getD j 0)) (decide (ns.length ≤ ms.length)) 0 (min ns.length ms.length) = !HT.lexLt ms ns
  | [], [] => by simp [Ob.lexAt, HT.lexLt]
  | [], _ :: _ => by simp [Ob.lexAt, HT.lexLt]
  | _ :: _, [] => by simp [Ob.lexAt, HT.lexLt]
  | x :: ns, y :: ms => by
    have ih := lex_le ns ms
    rw [HT.lexLt_cons]
    simp only [List.length_cons, Nat.succ_min_succ, Ob.lexAt_succ, List.getD_cons_zero, decide_eq_true_eq]
    rw [lexAt_shift]
    by_cases q : x = y
    · simp [q] at ih ⊢; exact ih
    · have q2 : y ≠ x := Ne.symm q
      simp only [q, q2, if_false, decide_false, Bool.false_eq_true]
      rw [← decide_not]
      congr 1
      apply propext
      omega
theorem lex_ge : ∀ ns ms : List Int, Ob.lexAt (fun j => decide (ns.getD j 0 = ms.getD j 0)) (fun j => decide (ms.getD j 0 ≤ ns.getD j 0)) (decide (ns.length ≥ ms.length)) 0 (min ns.length ms.length) = !HT.lexLt ns ms
  | [], [] => by simp [Ob.lexAt, HT.lexLt]
  | [], _ :: _ => by simp [Ob.lexAt, HT.lexLt]
  | _ :: _, [] => by simp [Ob.lexAt, HT.lexLt]
  | x :: ns, y :: ms => by
    have ih := lex_ge ns ms
    rw [HT.lexLt_cons]
    simp only [List.length_cons, Nat.succ_min_succ, Ob.lexAt_succ, List.getD_cons_zero, decide_eq_true_eq]
    rw [lexAt_shift]
    by_cases q : x = y
    · simp [q] at ih ⊢; exact ih
    · simp only [q, if_false, decide_false, Bool.false_eq_true]
      rw [← decide_not]
      congr 1
      apply propext
      omega
section
variable {X : Cx}
/-- tuples of ints compared by order -/
theorem op_tups {op : CmpOp} {rel : Int → Int → Bool} {ln : Nat → Nat → Bool} {f : List Int → List Int → Bool}
    (hr : ∀ (A : Around) (s : Shared) (a b : Int) (t u : Tok), Ob.RcOp op A s (.int a t) (.int b u) (rel a b))
    (hT : ∀ {A : Around} {s : Shared} {l b : Addr} {items items2 : Array Value} {e r : Nat → Bool} (hl : s.heap.IsTuple l items) (hb : s.heap.IsTuple b items2) (hu : A.units < cLine)
      (he : ∀ j (h1 : j < items.size) (h2 : j < items2.size), SeqAt.EqAt A.in1 s items[j] items2[j] (e j))
      (hr : ∀ j (h1 : j < items.size) (h2 : j < items2.size), e j = false → Ob.RcOp op A.in1 s items[j] items2[j] (r j)),
      Ob.RcOp op A s (.ref l) (.ref b) (Ob.lexAt e r (ln items.size items2.size) 0 (min items.size items2.size)))
    (hc : ∀ v u, compareOp op v u = richCompare op v u)
    (hf : ∀ ns ms : List Int, Ob.lexAt (fun j => decide (ns.getD j 0 = ms.getD j 0)) (fun j => rel (ns.getD j 0) (ms.getD j 0)) (ln ns.length ms.length) 0 (min ns.length ms.length) = f ns ms)
    (hu : X.A.units < cLine) : OpR X (compareOp op) (fun x y H Q => ∃ (a b : Addr) (ns ms : List Int), x = .ref a ∧ y = .ref b ∧ SqT X.K H a (ns.map V.int) ∧ SqT X.K H b (ms.map V.int) ∧ Q (.bl (f ns ms)) H) := by
  intro pins s σ H x y v u Q I rx ry h
  obtain ⟨a, b, ns, ms, rfl, rfl, ha, hb, q⟩ := h
  cases rx
  cases ry
  obtain ⟨its, r1, p1, _⟩ := I.tuple ha
  obtain ⟨its2, r2, p2, _⟩ := I.tuple hb
  have i1 : IntsAre its ns := Vals.ints r1
  have i2 : IntsAre its2 ms := Vals.ints r2
  have e1 : its.toArray.size = ns.length := by rw [List.size_toArray]; exact i1.length
  have e2 : its2.toArray.size = ms.length := by rw [List.size_toArray]; exact i2.length
  have at1 : ∀ j (h1 : j < its.toArray.size), ∃ t, its.toArray[j] = .int (ns.getD j 0) t := fun j h1 => PyProof.Rows.IntsAre.int_at i1 _ _ (by simp at h1; simp [h1])
  have at2 : ∀ j (h1 : j < its2.toArray.size), ∃ t, its2.toArray[j] = .int (ms.getD j 0) t := fun j h1 => PyProof.Rows.IntsAre.int_at i2 _ _ (by simp at h1; simp [h1])
  have R := hT (A := X.A) (s := s) (e := fun j => decide (ns.getD j 0 = ms.getD j 0)) (r := fun j => rel (ns.getD j 0) (ms.getD j 0)) p1 p2 hu (fun j h1 h2 => by
    obtain ⟨t, et⟩ := at1 j h1
    obtain ⟨t', et'⟩ := at2 j h2
    rw [et, et']
    have z : (ns.getD j 0 == ms.getD j 0) = decide (ns.getD j 0 = ms.getD j 0) := by
      by_cases q : ns.getD j 0 = ms.getD j 0
      · rw [decide_eq_true q]; exact beq_iff_eq.mpr q
      · rw [decide_eq_false q]; exact beq_eq_false_iff_ne.mpr q
    rw [← z]
    exact SeqAt.EqAt.int_int _ _ _ _) (fun j h1 h2 _ => by
    obtain ⟨t, et⟩ := at1 j h1
    obtain ⟨t', et'⟩ := at2 j h2
    rw [et, et']
    exact hr _ _ _ _ _ _)
  rw [e1, e2, hf] at R
  rw [hc]
  have z : wpAny (model X.prog X.w) X.A (richCompare op (.ref a) (.ref b)) (EP X pins σ Q) X.xe s := R X.prog X.w X.xe (EP X pins σ Q) ⟨.bl _, H, I, rfl, q⟩
  exact z
theorem cmpD3 {op : CmpOp} {h h' : D → D → R Bool} {g : D → D → Bool} (h1 : OpR X (compareOp op) (rCm h'))
    (h2 : ∀ {s : Shared} {a b : Value} {da db : D} {as bs : List Addr} {Q : Value → Shared → Prop}, Reads s.heap a da as → Reads s.heap b db bs → W.alike da db = true → da ≠ .none → X.A.units + min da.depth db.depth < cLine → Q (.bool (g da db)) s → wpAny (model X.prog X.w) X.A (compareOp op a b) Q X.xe s)
    (hu : X.A.units + 65 < cLine)
    (hh : ∀ a b k, h a b = .ok k → h' a b = .ok k ∨ (∃ x y, a = .tuple x ∧ b = .tuple y ∧ W.alikeAll x y = true ∧ PyData.depthAll x ≤ 60 ∧ noDs x = true ∧ noDs y = true ∧ k = g a b)) : OpR X (compareOp op) (rCm h) := by
  intro pins s σ H x y v u Q I rx ry q
  obtain ⟨A, a, b, k, ha, hb, hk, q⟩ := q
  rcases hh a b k hk with e | ⟨l, m, rfl, rfl, e1, e2, e8, e9, rfl⟩
  · exact h1 pins s σ H x y v u Q I rx ry ⟨A, a, b, k, ha, hb, e, q⟩
  · obtain ⟨as, r1⟩ := Dp.reads I _ x v (Rp.dp _ _ (by simpa [noD] using e8) ha) rx
    obtain ⟨bs, r2⟩ := Dp.reads I _ y u (Rp.dp _ _ (by simpa [noD] using e9) hb) ry
    refine h2 r1 r2 (by simpa [W.alike] using e1) (by intro z; cases z) ?_ ⟨.bl _, H, I, rfl, q⟩
    have := Nat.min_le_left (PyData.depth (.tuple l)) (PyData.depth (.tuple m))
    simp only [PyData.depth] at this ⊢
    omega
theorem cmpD {op : CmpOp} {f : Int → Int → Bool} {g : List Int → List Int → Bool} {h : D → D → R Bool} (h1 : OpR X (compareOp op) (rI0 fun i j => .bl (f i j)))
    (h2 : OpR X (compareOp op) (fun x y H Q => ∃ (a b : Addr) (ns ms : List Int), x = .ref a ∧ y = .ref b ∧ SqT X.K H a (ns.map V.int) ∧ SqT X.K H b (ms.map V.int) ∧ Q (.bl (g ns ms)) H))
    (hh : ∀ a b k, h a b = .ok k → (∃ i j, a = .int i ∧ b = .int j ∧ k = f i j) ∨ ∃ ns ms, a = .tuple (ns.map .int) ∧ b = .tuple (ms.map .int) ∧ k = g ns ms) : OpR X (compareOp op) (rCm h) := by
  intro pins s σ H x y v u Q I rx ry q
  obtain ⟨A, a, b, k, ha, hb, hk, q⟩ := q
  rcases hh a b k hk with ⟨i, j, rfl, rfl, rfl⟩ | ⟨ns, ms, rfl, rfl, rfl⟩
  · cases ha
    cases hb
    exact h1 pins s σ H _ _ v u Q I rx ry ⟨i, j, rfl, rfl, q⟩
  · cases ha with
    | tup n r z ra => cases hb with
      | tup n2 r2 z2 ra2 =>
        rw [ra.ints] at r
        rw [ra2.ints] at r2
        exact h2 pins s σ H _ _ v u Q I rx ry ⟨_, _, ns, ms, rfl, rfl, r.sq, r2.sq, q⟩
def ltD0 : D → D → R Bool
  | .int i, .int j => .ok (decide (i < j))
  | .tuple a, .tuple b => match asInts a, asInts b with
    | some ns, some ms => .ok (HT.lexLt ns ms)
    | _, _ => .st
  | _, _ => .st
theorem ltD_split {a b : D} {k : Bool} (h : ltD a b = .ok k) : ltD0 a b = .ok k ∨ ∃ x y, a = .tuple x ∧ b = .tuple y ∧ W.alikeAll x y = true ∧ W.alikeAll y x = true ∧ PyData.depthAll x ≤ 60 ∧ PyData.depthAll y ≤ 60 ∧ noDs x = true ∧ noDs y = true ∧ k = W.dataLt a b := by
  unfold ltD at h
  split at h
  · exact .inl h
  · split at h
    · rename_i h1 h2
      left
      simp only [ltD0, h1, h2]
      exact h
    · split at h
      · rename_i c
        simp only [Bool.and_eq_true, decide_eq_true_eq] at c
        cases h
        exact .inr ⟨_, _, rfl, rfl, c.1.1.1.1, c.1.1.1.2, c.1.1.2, c.1.2, c.2.1, c.2.2, rfl⟩
      · cases h
  · cases h
theorem ltD_ok {a b : D} {k : Bool} (h : ltD0 a b = .ok k) : (∃ i j, a = .int i ∧ b = .int j ∧ k = decide (i < j)) ∨ ∃ ns ms, a = .tuple (ns.map .int) ∧ b = .tuple (ms.map .int) ∧ k = HT.lexLt ns ms := by
  unfold ltD0 at h
  split at h
  · cases h; exact .inl ⟨_, _, rfl, rfl, rfl⟩
  · split at h
    · rename_i h1 h2
      cases h
      exact .inr ⟨_, _, by rw [asInts_some h1], by rw [asInts_some h2], rfl⟩
    · cases h
  · cases h
theorem op_ltX0 (hu : X.A.units < cLine) : OpR X (compareOp .Lt) (rCm ltD0) :=
  cmpD (f := fun i j => decide (i < j)) op_lt (op_tups (rel := fun i j => decide (i < j)) (ln := fun i j => decide (i < j)) (fun _ _ _ _ _ _ => Ob.RcOp.lt_int _ _ _ _) Ob.RcOp.tuples_lt (fun _ _ => rfl) lex_lt hu) fun _ _ _ h => ltD_ok h
theorem op_gtX0 (hu : X.A.units < cLine) : OpR X (compareOp .Gt) (rCm fun a b => ltD0 b a) :=
  cmpD (f := fun i j => decide (j < i)) op_gt (op_tups (rel := fun i j => decide (j < i)) (ln := fun i j => decide (i > j)) (fun _ _ _ _ _ _ => Ob.RcOp.gt_int _ _ _ _) Ob.RcOp.tuples_gt (fun _ _ => rfl) lex_gt hu) fun a b k h => by
    rcases ltD_ok h with ⟨i, j, e1, e2, e3⟩ | ⟨i, j, e1, e2, e3⟩
    · exact .inl ⟨j, i, e2, e1, e3⟩
    · exact .inr ⟨j, i, e2, e1, e3⟩
theorem op_leX0 (hu : X.A.units < cLine) : OpR X (compareOp .LtE) (rCm fun a b => notR (ltD0 b a)) :=
  cmpD (f := fun i j => decide (i ≤ j)) (g := fun ns ms => !HT.lexLt ms ns) op_le (op_tups (rel := fun i j => decide (i ≤ j)) (ln := fun i j => decide (i ≤ j)) (fun _ _ _ _ _ _ => Ob.RcOp.le_int _ _ _ _) Ob.RcOp.tuples_le (fun _ _ => rfl) lex_le hu) fun a b k h => by
    have e0 : k = !(!k) := by simp
    rcases ltD_ok (notR_ok h) with ⟨i, j, e1, e2, e3⟩ | ⟨i, j, e1, e2, e3⟩
    · refine .inl ⟨j, i, e2, e1, ?_⟩
      rw [e0, e3, ← decide_not]
      congr 1
      apply propext; omega
    · exact .inr ⟨j, i, e2, e1, by rw [e0, e3]⟩
theorem op_geX0 (hu : X.A.units < cLine) : OpR X (compareOp .GtE) (rCm fun a b => notR (ltD0 a b)) :=
  cmpD (f := fun i j => decide (j ≤ i)) (g := fun ns ms => !HT.lexLt ns ms) op_ge (op_tups (rel := fun i j => decide (j ≤ i)) (ln := fun i j => decide (i ≥ j)) (fun _ _ _ _ _ _ => Ob.RcOp.ge_int _ _ _ _) Ob.RcOp.tuples_ge (fun _ _ => rfl) lex_ge hu) fun a b k h => by
    have e0 : k = !(!k) := by simp
    rcases ltD_ok (notR_ok h) with ⟨i, j, e1, e2, e3⟩ | ⟨i, j, e1, e2, e3⟩
    · refine .inl ⟨i, j, e1, e2, ?_⟩
      rw [e0, e3, ← decide_not]
      congr 1
      apply propext; omega
    · exact .inr ⟨i, j, e1, e2, by rw [e0, e3]⟩
theorem notR_of {r : R Bool} {k : Bool} (h : r = .ok (!k)) : notR r = .ok k := by rw [h]; simp [notR]
theorem op_ltX (hu : X.A.units + 65 < cLine) : OpR X (compareOp .Lt) (rCm ltD) :=
  cmpD3 (g := W.dataLt) (op_ltX0 (by omega)) (fun r1 r2 h1 h2 h3 h4 => W.lt_data r1 r2 h1 h2 h3 h4) hu fun a b k h => by
    rcases ltD_split h with q | ⟨x, y, e1, e2, e3, e4, e5, e6, e8, e9, e7⟩
    · exact .inl q
    · exact .inr ⟨x, y, e1, e2, e3, e5, e8, e9, e7⟩
theorem op_gtX (hu : X.A.units + 65 < cLine) : OpR X (compareOp .Gt) (rCm fun a b => ltD b a) :=
  cmpD3 (g := fun a b => W.dataLt b a) (op_gtX0 (by omega)) (fun r1 r2 h1 h2 h3 h4 => W.gt_data r1 r2 h1 h2 h3 h4) hu fun a b k h => by
    rcases ltD_split h with q | ⟨x, y, e1, e2, e3, e4, e5, e6, e8, e9, e7⟩
    · exact .inl q
    · exact .inr ⟨y, x, e2, e1, e4, e6, e9, e8, e7⟩
theorem op_leX (hu : X.A.units + 65 < cLine) : OpR X (compareOp .LtE) (rCm fun a b => notR (ltD b a)) :=
  cmpD3 (g := fun a b => !W.dataLt b a) (op_leX0 (by omega)) (fun r1 r2 h1 h2 h3 h4 => W.le_data r1 r2 h1 h2 h3 h4) hu fun a b k h => by
    have e0 : k = !(!k) := by simp
    rcases ltD_split (notR_ok h) with q | ⟨x, y, e1, e2, e3, e4, e5, e6, e8, e9, e7⟩
    · exact .inl (notR_of q)
    · exact .inr ⟨y, x, e2, e1, e4, e6, e9, e8, by rw [e0, e7]⟩
theorem op_geX (hu : X.A.units + 65 < cLine) : OpR X (compareOp .GtE) (rCm fun a b => notR (ltD a b)) :=
  cmpD3 (g := fun a b => !W.dataLt a b) (op_geX0 (by omega)) (fun r1 r2 h1 h2 h3 h4 => W.ge_data r1 r2 h1 h2 h3 h4) hu fun a b k h => by
    have e0 : k = !(!k) := by simp
    rcases ltD_split (notR_ok h) with q | ⟨x, y, e1, e2, e3, e4, e5, e6, e8, e9, e7⟩
    · exact .inl (notR_of q)
    · exact .inr ⟨x, y, e1, e2, e3, e5, e8, e9, by rw [e0, e7]⟩
theorem eqv_keyD {j k : Key} : PyData.eqv (keyD j) (keyD k) = decide (j = k) := by
  cases j <;> cases k <;> simp [keyD, PyData.eqv, Bool.beq_eq_decide_eq, beq_iff_eq]
theorem RpK.look {A : Addr → Prop} {H : Hp} {k : Key} : ∀ {ks : List (Key × V)} {kvs : List (D × D)}, RpK A H ks kvs → (lookD (keyD k) kvs = none ∧ valV ks k = none) ∨ ∃ d v, lookD (keyD k) kvs = some d ∧ valV ks k = some v ∧ Rp A H v d
  | _, _, .nil => .inl ⟨rfl, rfl⟩
  | _, _, .cons (k := j) (v := v) (d := d) h r => by
    by_cases e : j = k
    · subst e
      exact .inr ⟨d, v, by simp [lookD, eqv_keyD], valV_pos rfl, h⟩
    · have e1 : ∀ (d : D) kvs, lookD (keyD k) ((keyD j, d) :: kvs) = lookD (keyD k) kvs := fun d kvs => by simp [lookD, eqv_keyD, e]
      rw [e1, valV_neg (p := (j, v)) e]
      exact RpK.look r
theorem RpK.any {A : Addr → Prop} {H : Hp} {k : Key} : ∀ {ks : List (Key × V)} {kvs : List (D × D)}, RpK A H ks kvs → (kvs.any fun p => PyData.eqv p.1 (keyD k)) = ks.any fun kv => decide (kv.1 = k)
  | _, _, .nil => rfl
  | _, _, .cons h r => by rw [List.any_cons, List.any_cons, RpK.any r, eqv_keyD]
theorem RpK.repl {A : Addr → Prop} {H : Hp} {k : Key} {v : V} {d : D} (q : Rp A H v d) : ∀ {ks : List (Key × V)} {kvs : List (D × D)}, RpK A H ks kvs → RpK A H (ks.map fun kv => if kv.1 = k then (kv.1, v) else kv) (kvs.map fun p => if PyData.eqv p.1 (keyD k) = true then (p.1, d) else p)
  | _, _, .nil => .nil
  | _, _, .cons (k := j) h r => by
    rw [List.map_cons, List.map_cons]
    by_cases e : j = k
    · have e2 : PyData.eqv (keyD j) (keyD k) = true := by rw [eqv_keyD]; exact decide_eq_true e
      rw [if_pos e, if_pos e2]
      exact .cons q (RpK.repl q r)
    · have e2 : ¬ PyData.eqv (keyD j) (keyD k) = true := by rw [eqv_keyD]; simpa using e
      rw [if_neg e, if_neg e2]
      exact .cons h (RpK.repl q r)
theorem RpK.snoc {A : Addr → Prop} {H : Hp} {k : Key} {v : V} {d : D} (q : Rp A H v d) : ∀ {ks : List (Key × V)} {kvs : List (D × D)}, RpK A H ks kvs → RpK A H (ks ++ [(k, v)]) (kvs ++ [(keyD k, d)])
  | _, _, .nil => .cons q .nil
  | _, _, .cons h r => .cons h (RpK.snoc q r)
theorem RpK.put {A : Addr → Prop} {H : Hp} {k : Key} {v : V} {d : D} (q : Rp A H v d) {ks : List (Key × V)} {kvs : List (D × D)} (r : RpK A H ks kvs) : RpK A H (putK ks k v) (putD (keyD k) d kvs) := by
  unfold putK putD
  rw [r.any]
  by_cases c : (ks.any fun kv => decide (kv.1 = k)) = true
  · rw [if_pos c, if_pos c]; exact r.repl q
  · rw [if_neg c, if_neg c]; exact r.snoc q
theorem RpK.length {A : Addr → Prop} {H : Hp} : ∀ {ks : List (Key × V)} {kvs : List (D × D)}, RpK A H ks kvs → ks.length = kvs.length
  | _, _, .nil => rfl
  | _, _, .cons _ r => by rw [List.length_cons, List.length_cons, RpK.length r]
theorem isKey_of {A : Addr → Prop} {H : Hp} {x : V} {a : D} (h : Rp A H x a) (c : isKey a = true) : ∃ k, a = keyD k ∧ x = kV k := by
  cases h with
  | int i => exact ⟨.inl i, rfl, rfl⟩
  | str t => exact ⟨.inr t, rfl, rfl⟩
  | _ => simp [isKey] at c
theorem eqv_ints2 : ∀ (j k : List Int), PyData.eqvAll (j.map .int) (k.map .int) = decide (j = k)
  | [], [] => rfl
  | [], _ :: _ => rfl
  | _ :: _, [] => rfl
  | a :: j, b :: k => by
    have ih := eqv_ints2 j k
    simp only [List.map_cons, PyData.eqvAll, ih, PyData.eqv]
    rw [Bool.eq_iff_iff]
    simp
theorem eqv_tk (j k : List Int) : PyData.eqv (.tuple (j.map .int)) (.tuple (k.map .int)) = decide (j = k) := by
  simp only [PyData.eqv, eqv_ints2]
theorem isTKey_ints (k : List Int) : isTKey (.tuple (k.map .int)) = true := by
  simp [isTKey]
theorem isTKey_of {A : Addr → Prop} {H : Hp} {x : V} {a : D} (h : Rp A H x a) (c : isTKey a = true) : ∃ (k : List Int) (b : Addr), a = .tuple (k.map .int) ∧ x = .ref b ∧ Tp H b (k.map V.int) ∧ ¬ A b := by
  cases h with
  | @tup b xs ds n t z r =>
    have key : ∀ (ds : List D) (xs : List V), (ds.all fun d => match d with | .int _ => true | _ => false) = true → RpA A H xs ds → ∃ k : List Int, ds = k.map .int ∧ xs = k.map V.int := by
      intro ds
      induction ds with
      | nil => intro xs _ r; cases r; exact ⟨[], rfl, rfl⟩
      | cons d ds ih =>
        intro xs c r
        cases r with
        | cons h r =>
          rw [List.all_cons, Bool.and_eq_true] at c
          obtain ⟨k, rfl, rfl⟩ := ih _ c.2 r
          cases h with
          | int i => exact ⟨i :: k, rfl, rfl⟩
          | _ => exact absurd c.1 (by simp)
    obtain ⟨k, rfl, rfl⟩ := key ds xs c r
    exact ⟨k, b, rfl, rfl, t, n⟩
  | _ => simp [isTKey] at c
theorem RpT.tks {A : Addr → Prop} {H : Hp} : ∀ {ks : List TK} {kvs : List (D × D)}, RpT A H ks kvs → TKs H ks
  | _, _, .nil => fun x m => by cases m
  | _, _, .cons _ t _ r => fun x m => by
    rcases List.mem_cons.mp m with rfl | m
    · exact t.rd
    · exact RpT.tks r x m
theorem RpT.look {A : Addr → Prop} {H : Hp} {k : List Int} : ∀ {ks : List TK} {kvs : List (D × D)}, RpT A H ks kvs → (lookD (.tuple (k.map .int)) kvs = none ∧ valT ks k = none) ∨ ∃ d v, lookD (.tuple (k.map .int)) kvs = some d ∧ valT ks k = some v ∧ Rp A H v d
  | _, _, .nil => .inl ⟨rfl, rfl⟩
  | _, _, .cons (k := j) (v := v) (d := d) _ _ h r => by
    by_cases e : j = k
    · subst e
      exact .inr ⟨d, v, by simp [lookD, eqv_tk], by simp [valT], h⟩
    · rcases RpT.look (k := k) r with ⟨e1, e2⟩ | ⟨d', v', e1, e2, q⟩
      · refine .inl ⟨by simp [lookD, eqv_tk, e, e1], ?_⟩
        unfold valT at e2 ⊢
        simpa [e] using e2
      · refine .inr ⟨d', v', by simp [lookD, eqv_tk, e, e1], ?_, q⟩
        unfold valT at e2 ⊢
        simpa [e] using e2
theorem RpT.lookS {A : Addr → Prop} {H : Hp} {k : List Int} {ks : List TK} {kvs : List (D × D)} (r : RpT A H ks kvs) : (lookD (.tuple (k.map .int)) kvs).isSome = (valT ks k).isSome := by
  rcases r.look (k := k) with ⟨e1, e2⟩ | ⟨d, v, e1, e2, _⟩ <;> rw [e1, e2] <;> rfl
theorem RpT.notNo {A : Addr → Prop} {H : Hp} {ks : List TK} {kvs : List (D × D)} (r : RpT A H ks kvs) (n : ks ≠ []) : noTK kvs = false := by
  cases r with
  | nil => exact absurd rfl n
  | cons _ _ _ r => simp [noTK, isTKey_ints]
theorem isTKey_keyD (k : Key) : isTKey (keyD k) = false := by cases k <;> rfl
theorem RpK.noT {A : Addr → Prop} {H : Hp} : ∀ {ks : List (Key × V)} {kvs : List (D × D)}, RpK A H ks kvs → noTK kvs = true
  | _, _, .nil => rfl
  | _, _, .cons h r => by
    have := RpK.noT r
    unfold noTK at this ⊢
    rw [List.all_cons, this, isTKey_keyD]
    rfl
theorem RpK.allT {A : Addr → Prop} {H : Hp} {ks : List (Key × V)} {kvs : List (D × D)} (r : RpK A H ks kvs) (c : allTK kvs = true) : ks = [] ∧ kvs = [] := by
  cases r with
  | nil => exact ⟨rfl, rfl⟩
  | cons h r => simp [allTK, isTKey_keyD] at c
theorem RpT.any {A : Addr → Prop} {H : Hp} {k : List Int} : ∀ {ks : List TK} {kvs : List (D × D)}, RpT A H ks kvs → (kvs.any fun p => PyData.eqv p.1 (.tuple (k.map .int))) = (valT ks k).isSome
  | _, _, .nil => rfl
  | _, _, .cons (k := j) _ _ h r => by
    have ih := RpT.any (k := k) r
    rw [List.any_cons, eqv_tk, ih]
    unfold valT
    by_cases e : j = k <;> simp [e]
theorem RpT.repl {A : Addr → Prop} {H : Hp} {k : List Int} {v : V} {d : D} (q : Rp A H v d) : ∀ {ks : List TK} {kvs : List (D × D)}, RpT A H ks kvs →
    RpT A H (ks.map fun x => if x.1 = k then (x.1, x.2.1, v) else x) (kvs.map fun p => if PyData.eqv p.1 (.tuple (k.map .int)) = true then (p.1, d) else p)
  | _, _, .nil => .nil
  | _, _, .cons (k := j) n t h r => by
    have ih := RpT.repl (k := k) q r
    rw [List.map_cons, List.map_cons]
    by_cases e : j = k
    · have e2 : PyData.eqv (.tuple (j.map .int)) (.tuple (k.map .int)) = true := by rw [eqv_tk]; exact decide_eq_true e
      simp only [if_pos e, if_pos e2]
      exact .cons n t q ih
    · have e2 : ¬ PyData.eqv (.tuple (j.map .int)) (.tuple (k.map .int)) = true := by rw [eqv_tk]; simpa using e
      simp only [if_neg e, if_neg e2]
      exact .cons n t h ih
theorem RpT.snoc {A : Addr → Prop} {H : Hp} {k : List Int} {b : Addr} {v : V} {d : D} (n : ¬ A b) (t : Tp H b (k.map V.int)) (q : Rp A H v d) : ∀ {ks : List TK} {kvs : List (D × D)}, RpT A H ks kvs → RpT A H (ks ++ [(k, b, v)]) (kvs ++ [(.tuple (k.map .int), d)])
  | _, _, .nil => .cons n t q .nil
  | _, _, .cons n' t' h r => .cons n' t' h (RpT.snoc n t q r)
theorem RpT.put {A : Addr → Prop} {H : Hp} {k : List Int} {b : Addr} {v : V} {d : D} (n : ¬ A b) (t : Tp H b (k.map V.int)) (q : Rp A H v d) {ks : List TK} {kvs : List (D × D)} (r : RpT A H ks kvs) : RpT A H (putT ks k b v) (putD (.tuple (k.map .int)) d kvs) := by
  unfold putT putD
  rw [r.any]
  by_cases c : (valT ks k).isSome = true
  · rw [if_pos c, if_pos c]; exact r.repl q
  · rw [if_neg c, if_neg c]; exact r.snoc n t q
theorem putT_ne (ks : List TK) (k : List Int) (b : Addr) (v : V) : putT ks k b v ≠ [] := by
  unfold putT
  split
  · rename_i c
    cases ks with
    | nil => simp [valT] at c
    | cons x ks => simp
  · simp
theorem op_inX (hu : X.A.units + 65 < cLine) : OpR X (compareOp .In) (rCm inD) := by
  intro pins s σ H x y v u Q I rx ry h
  obtain ⟨A, a, b, k, ha, hb, hk, q⟩ := h
  cases hb with
  | lst n r z ra =>
    simp only [inD] at hk
    split at hk
    · rename_i c
      cases hk
      rw [Bool.and_eq_true] at c
      exact op_inD hu pins s σ H x _ v u Q I rx ry ⟨a, _, Rp.dp _ _ (noD_shaped c.1) ha, Rp.dp _ _ (noD_shaped c.2) (Rp.lst n r z ra), c.1, c.2, q⟩
    · cases hk
  | tup n r z ra =>
    simp only [inD] at hk
    split at hk
    · rename_i c
      cases hk
      rw [Bool.and_eq_true] at c
      obtain ⟨as, r1⟩ := Dp.reads I a x v (Rp.dp _ _ (noD_shaped c.1) ha) rx
      obtain ⟨bs, r2⟩ := Dp.reads I (.tuple _) _ u (Rp.dp _ _ (noD_shaped c.2) (Rp.tup n r z ra)) ry
      exact SeqAt.in_tuple_reads r2 r1 (SeqAt.canLay_of_shaped c.2) (SeqAt.canLay_of_shaped c.1) (room_in_shaped c.1 hu) ⟨.bl _, H, I, rfl, q⟩
    · cases hk
  | str t =>
    simp only [inD] at hk
    cases ha with
    | str z =>
      simp only at hk
      cases hk
      exact op_in_str pins s σ H _ _ v u Q I rx ry ⟨_, _, rfl, rfl, q⟩
    | _ => cases hk
  | @dct _ ks _ n r rk =>
    simp only [inD] at hk
    split at hk
    · rename_i c
      obtain ⟨kk, rfl, rfl⟩ := isKey_of ha (Bool.and_eq_true_iff.mp c).1
      cases ry
      refine L2.d_in (by omega) I (.inl ⟨_, kk, r, rfl, rfl⟩) rx fun s' I' => ?_
      have e : k = (valV ks kk).isSome := by
        rcases rk.look (k := kk) with ⟨e1, e2⟩ | ⟨d, w, e1, e2, _⟩
        · rw [e1] at hk; rw [e2]; cases hk; rfl
        · rw [e1] at hk; rw [e2]; cases hk; rfl
      rw [← e]
      exact ⟨.bl k, H, I', rfl, q⟩
    · split at hk
      · rename_i c
        rw [Bool.and_eq_true] at c
        obtain ⟨rfl, rfl⟩ := rk.allT c.2
        obtain ⟨kk, b, rfl, rfl, t, _⟩ := isTKey_of ha c.1
        cases ry
        obtain rfl : v = Value.ref b := rx
        refine tx_in (ks := []) (k := kk) (by omega) I (isTX_k I.hok r) (fun x m => by cases m) t.rd fun s' I' => ?_
        have e : k = (valT ([] : List TK) kk).isSome := by cases hk; rfl
        rw [← e]
        exact ⟨.bl k, H, I', rfl, q⟩
      · cases hk
  | @dtt a1 ks kvs n r z rk =>
    simp only [inD] at hk
    rw [rk.notNo z, Bool.and_false, if_neg Bool.false_ne_true] at hk
    split at hk
    · rename_i c
      rw [Bool.and_eq_true] at c
      obtain ⟨kk, b, rfl, rfl, t, _⟩ := isTKey_of ha c.1
      cases ry
      obtain rfl : v = Value.ref b := rx
      refine tx_in (ks := ks) (k := kk) (by omega) I (isTX_of I.hok r) rk.tks t.rd fun s' I' => ?_
      have e : k = (valT ks kk).isSome := by
        rw [rk.lookS] at hk
        cases hk; rfl
      rw [← e]
      exact ⟨.bl k, H, I', rfl, q⟩
    · cases hk
  | _ => simp [inD] at hk
theorem op_ninX (hu : X.A.units + 65 < cLine) : OpR X (compareOp .NotIn) (rCm fun a b => notR (inD a b)) := by
  intro pins s σ H x y v u Q I rx ry h
  obtain ⟨A, a, b, k, ha, hb, hk, q⟩ := h
  have hk := notR_ok hk
  have e0 : k = !(!k) := by simp
  cases hb with
  | lst n r z ra =>
    simp only [inD] at hk
    split at hk
    · rename_i c
      have e := R.ok.inj hk
      rw [e0, ← e] at q
      rw [Bool.and_eq_true] at c
      exact op_notInD hu pins s σ H x _ v u Q I rx ry ⟨a, _, Rp.dp _ _ (noD_shaped c.1) ha, Rp.dp _ _ (noD_shaped c.2) (Rp.lst n r z ra), c.1, c.2, q⟩
    · cases hk
  | tup n r z ra =>
    simp only [inD] at hk
    split at hk
    · rename_i c
      have e := R.ok.inj hk
      rw [e0, ← e] at q
      rw [Bool.and_eq_true] at c
      obtain ⟨as, r1⟩ := Dp.reads I a x v (Rp.dp _ _ (noD_shaped c.1) ha) rx
      obtain ⟨bs, r2⟩ := Dp.reads I (.tuple _) _ u (Rp.dp _ _ (noD_shaped c.2) (Rp.tup n r z ra)) ry
      exact SeqAt.notIn_tuple_reads r2 r1 (SeqAt.canLay_of_shaped c.2) (SeqAt.canLay_of_shaped c.1) (room_in_shaped c.1 hu) ⟨.bl _, H, I, rfl, q⟩
    · cases hk
  | str t =>
    simp only [inD] at hk
    cases ha with
    | str z =>
      simp only at hk
      have e := R.ok.inj hk
      rw [e0, ← e] at q
      exact L2.op_notIn_str pins s σ H _ _ v u Q I rx ry ⟨_, _, rfl, rfl, q⟩
    | _ => cases hk
  | @dct _ ks _ n r rk =>
    simp only [inD] at hk
    split at hk
    · rename_i c
      obtain ⟨kk, rfl, rfl⟩ := isKey_of ha (Bool.and_eq_true_iff.mp c).1
      cases ry
      refine L2.d_notIn (by omega) I (.inl ⟨_, kk, r, rfl, rfl⟩) rx fun s' I' => ?_
      have e : k = !(valV ks kk).isSome := by
        rcases rk.look (k := kk) with ⟨e1, e2⟩ | ⟨d, w, e1, e2, _⟩
        · rw [e1] at hk; rw [e2, e0, ← R.ok.inj hk]; rfl
        · rw [e1] at hk; rw [e2, e0, ← R.ok.inj hk]; rfl
      rw [← e]
      exact ⟨.bl k, H, I', rfl, q⟩
    · split at hk
      · rename_i c
        rw [Bool.and_eq_true] at c
        obtain ⟨rfl, rfl⟩ := rk.allT c.2
        obtain ⟨kk, b, rfl, rfl, t, _⟩ := isTKey_of ha c.1
        cases ry
        obtain rfl : v = Value.ref b := rx
        refine tx_notIn (ks := []) (k := kk) (by omega) I (isTX_k I.hok r) (fun x m => by cases m) t.rd fun s' I' => ?_
        have e : k = !(valT ([] : List TK) kk).isSome := by rw [e0, ← R.ok.inj hk]; rfl
        rw [← e]
        exact ⟨.bl k, H, I', rfl, q⟩
      · cases hk
  | @dtt a1 ks kvs n r z rk =>
    simp only [inD] at hk
    rw [rk.notNo z, Bool.and_false, if_neg Bool.false_ne_true] at hk
    split at hk
    · rename_i c
      rw [Bool.and_eq_true] at c
      obtain ⟨kk, b, rfl, rfl, t, _⟩ := isTKey_of ha c.1
      cases ry
      obtain rfl : v = Value.ref b := rx
      refine tx_notIn (ks := ks) (k := kk) (by omega) I (isTX_of I.hok r) rk.tks t.rd fun s' I' => ?_
      have e : k = !(valT ks kk).isSome := by
        rw [rk.lookS] at hk
        rw [e0, ← R.ok.inj hk]
      rw [← e]
      exact ⟨.bl k, H, I', rfl, q⟩
    · cases hk
  | _ => simp [inD] at hk
theorem op_C (hu : X.A.units + 65 < cLine) (c : Cm) : OpR X (compareOp (cmS c)) (rCm (evCm c)) := by
  cases c with
  | eq => exact op_eqX (by omega)
  | ne => exact op_neX (by omega)
  | lt => exact op_ltX (by omega)
  | le => exact op_leX (by omega)
  | gt => exact op_gtX (by omega)
  | ge => exact op_geX (by omega)
  | in_ => exact op_inX hu
  | nin => exact op_ninX hu
end
end PC
set_option Elab.async false
set_option linter.all false
namespace PC
open PySem PySem.Spec PyProof.Rows L2
section
variable {prog : Program} {w : World} {A : Around} {E : Value → Shared → Prop} {s : Shared}
theorem collect_tup {l : Addr} {vs : List Value} {Q : List Value → Shared → Prop} (hl : s.heap.IsTuple l vs.toArray)
    (h : Q vs { s with heap := (s.heap.push (seqObj "list" #[] 0)).update s.heap.objs.size (Obj.mapSeq (· ++ vs.toArray)) }) (hsz : vs.length ≤ sizeLine := by size_fits) :
    wpAny (model prog w) A (collect (.ref l)) Q E s := by
  obtain ⟨o, ho, hc, n, hd⟩ := id hl
  unfold collect
  refine wpAny_bind (wpAny_runValue (codeAny_builtin entry_proto_collect' ?_))
  show wpAny _ _ (do again (.builtin "list.__iadd__" ⟨[← newList [], .ref l], []⟩)) _ _ s
  refine wpAny_bind (wpAny_newList (wpAny_pure ⟨Code.quiet_builtin _ (by decide +kernel), codeAny_builtin entry_list_iadd' ?_⟩))
  show wpAny _ _ (Builtin.List.listExtendWith (.ref s.heap.objs.size) (.ref l) (.ref s.heap.objs.size)) _ _ { s with heap := s.heap.push (seqObj "list" #[] 0) }
  unfold Builtin.List.listExtendWith
  have ho' : (s.heap.push (seqObj "list" #[] 0)).get? l = some o := Heap.get?_push_of_some _ ho
  refine wpAny_bind (wpAny_typeOf (T := "tuple") ⟨o, ho', hc⟩ ?_)
  have ht : (Value.type "tuple" == Value.type "tuple") = true := by rfl
  rw [if_pos (by rw [ht]; simp)]
  refine wpAny_bind (listItems_at ho' hd ?_)
  refine wpAny_bind (listItems_at (xs := #[]) (n := 0) (Heap.get?_push_size _ rfl) rfl ?_)
  rw [if_neg (by simp)]
  refine wpAny_bind (listUpdate_at (xs := #[]) (n := 0) (Heap.get?_push_size _ rfl) rfl ?_ (Nat.zero_le _) (by show (#[] ++ vs.toArray).size ≤ sizeLine + 1; simp only [Array.size_append, List.size_toArray, List.length_nil]; omega))
  refine wpAny_pure ?_
  show wpAny (model prog w) A (do
      let o ← load s.heap.objs.size
      match o.data with
      | .seq xs _ => pure xs.toList
      | _ => unsupported "internal:collect") Q E { s with heap := (s.heap.push (seqObj "list" #[] 0)).update s.heap.objs.size (Obj.mapSeq (· ++ vs.toArray)) }
  refine wpAny_bind (wpAny_load (get?_update_seq (Heap.get?_push_size _ rfl) _) ?_)
  show wpAny _ _ (pure ((#[] : Array Value) ++ vs.toArray).toList) Q E _
  rw [show ((#[] : Array Value) ++ vs.toArray).toList = vs by simp]
  exact wpAny_pure h
theorem sorted_of_sortT {l : Addr} {vs : List Value} {Q : Value → Shared → Prop} (hl : s.heap.IsTuple l vs.toArray) (hL : vs.length ≤ sizeLine)
    (body : ∀ E' : Value → Shared → Prop, wpAny (model prog w) A.in1.in1 (Builtin.«list.sort» ⟨[.ref (s.heap.objs.size + 1)], []⟩) (fun f s' => f = .done (.ret .none) ∧ Q (.ref (s.heap.objs.size + 1)) s') E' { s with heap := W.copyHeap s.heap vs }) :
    wpAny (model prog w) A (call (.builtin "sorted") [.ref l]) Q E s := by
  refine Calls.call_function_entry kind_sorted plain_sorted entry_sorted (args_sorted1 _) ?_
  unfold Builtin.«sorted»
  refine wpAny_bind (m := checkCount "sorted" 1 1 _) (wpAny_pure ?_)
  refine wpAny_bind (collect_tup hl ?_ hL)
  refine wpAny_bind (wpAny_newList ?_ hL)
  have hsz : ((s.heap.push (seqObj "list" #[] 0)).update s.heap.objs.size (Obj.mapSeq (· ++ vs.toArray))).objs.size = s.heap.objs.size + 1 := by
    rw [Heap.size_update, size_push']
  show wpAny _ _ _ _ _ { s with heap := W.copyHeap s.heap vs }
  rw [hsz]
  refine wpAny_bind (wpAny_holding (wpAny_call_entry slot_list_sort ⟨_, W.copyHeap_at s.heap vs, rfl⟩ entry_list_sort ?body (args_list_sort _)))
  case body =>
    show wpAny (model prog w) A.in1.in1 (Builtin.«list.sort» ⟨[.ref (s.heap.objs.size + 1)], []⟩) _ _ _
    refine wpAny_mono (body _) (fun f s' hf => ?_) fun _ _ e => e
    obtain ⟨rfl, hq⟩ := hf
    exact ⟨_, rfl, wpAny_pure ⟨_, rfl, hq⟩⟩
theorem sorted_dataT {β : Type} {vs : List Value} {bs : List β} {enc : β → PyData} {R : Value → β → Prop} {l : Addr} {Q : Value → Shared → Prop} (hl : s.heap.IsTuple l vs.toArray) (e : W.EachIs R vs bs) (er : W.EachIs (fun v b => ∃ as, Reads s.heap v (enc b) as) vs bs) (hal : W.AllAlike (bs.map enc)) (hk : W.Sortable (bs.map enc)) (hL : bs.length ≤ sizeLine)
    (hu : ∀ b, b ∈ bs → A.units + 2 + (enc b).depth < cLine) (h : ∀ out, out.length = bs.length → W.EachIs R out (bs.mergeSort (W.dataLe false enc)) → Q (.ref (s.heap.objs.size + 1)) { s with heap := sortedAll s.heap vs (List.toArray out) }) :
    wpAny (model prog w) A (call (.builtin "sorted") [.ref l]) Q E s := by
  have er' : W.EachIs (fun v b => ∃ as, Reads (W.sortingHeap (W.copyHeap s.heap vs) (s.heap.objs.size + 1) vs) v (enc b) as) vs bs := er.mono fun _ _ ⟨as, r⟩ => ⟨as, PyProof.Rows.Reads.keeps (fun _ _ => W.sorting_copy_old) r⟩
  have hL' : vs.length ≤ sizeLine := by rw [e.length]; exact hL
  refine sorted_of_sortT hl hL' fun _ => W.list_sort_vals (s := { s with heap := W.copyHeap s.heap vs }) (W.copyHeap_at s.heap vs) (W.SortsAt.data (s := { s with heap := W.sortingHeap (W.copyHeap s.heap vs) (s.heap.objs.size + 1) vs }) (W.each_map (R := fun v d => ∃ as, Reads (W.sortingHeap (W.copyHeap s.heap vs) (s.heap.objs.size + 1) vs) v d as) enc er') hal hk (W.bound_map hu)) hL' ⟨rfl, ?_⟩
  exact h _ (by rw [W.sortVals_length false rfl]; exact e.length) (W.sortVals_data false e er' hal)
end
end PC
set_option Elab.async false
set_option linter.all false
namespace PC
open PySem PySem.Spec PyProof.Rows L2
section
variable {A : Addr → Prop} {H : Hp}
theorem RpA.atI {ds : List D} {vs : List V} {i : Int} {d : D} (r : RpA A H vs ds) (h : L2.atI ds i = some d) : ∃ v, L2.atI vs i = some v ∧ Rp A H v d := by
  unfold L2.atI at h ⊢
  rw [r.length]
  cases e : ixN ds.length i with
  | none => rw [e] at h; simp at h
  | some j =>
    rw [e] at h
    exact RpA.get r (by simpa using h)
end
section
variable {X : Cx}
theorem ixd_of {prog : Program} {w : World} {A : Around} {E : Value → Shared → Prop} {s : Shared} {value slice : Expr} {T id : String} {o i : Value} {Q : Value → Shared → Prop}
    (hl : typeLookup (.type T) "__getitem__" = pure (some (.builtin id))) (hs : subscripted slice false o i = operate [o, i] (getItem o i)) (hT : s.TypeIs o T) (h₂ : wpAny (model prog w) A (getItem o i) Q E s) :
    wpAny (model prog w) A (subscriptTail value slice o i) Q E s := by
  unfold subscriptTail
  refine wpAny_bind ?_
  rw [getitemInPython_of_ne hT.not_modules]
  refine wpAny_bind (wpAny_specialOf hT hl ?_)
  have fin : wpAny (model prog w) A (subscripted slice false o i) (fun r s₃ => wpAny (model prog w) A (letTemporaryGo value o r >>= fun _ => pure r) Q E s₃) E s := by
    rw [hs]
    exact wpAny_operating (wpAny_mono h₂ (fun r s₃ h₃ => wpAny_bind (wpAny_letTemporaryGo (wpAny_pure h₃))) fun _ _ x => x)
  first
    | exact wpAny_pure (wpAny_bind fin)
    | exact wpAny_bind (wpAny_pure (wpAny_bind fin))
    | exact wpAny_bind fin
theorem ix_D (hu : X.A.units + 1 < cLine) : IxR X (rOp evIx) := by
  intro value slice pins s σ H x y v u Q I rx ry h hs
  obtain ⟨A, a, b, tr, ha, hb, hq⟩ := h
  cases ha with
  | lst n r z ra => cases hb with
    | int i =>
      obtain ⟨d, e, q⟩ := hq
      simp only [evIx, getAt] at e
      split at e
      · rename_i d' e'
        cases e
        obtain ⟨w, e1, e2⟩ := ra.atI e'
        exact ix_list value slice pins s σ H _ _ v u Q I rx ry ⟨_, _, i, w, rfl, rfl, .inl r, e1, q _ _ (Same.refl H) e2⟩ hs
      · cases e
    | _ => exact hq.st
  | tup n r z ra => cases hb with
    | int i =>
      obtain ⟨d, e, q⟩ := hq
      simp only [evIx, getAt] at e
      split at e
      · rename_i d' e'
        cases e
        obtain ⟨w, e1, e2⟩ := ra.atI e'
        exact ix_tup value slice pins s σ H _ _ v u Q I rx ry ⟨_, _, i, w, rfl, rfl, r.sq, e1, q _ _ (Same.refl H) e2⟩ hs
      · cases e
    | _ => exact hq.st
  | str t => cases hb with
    | int i =>
      obtain ⟨c, hq⟩ := hq.ite
      obtain ⟨d, e, q⟩ := hq
      split at e
      · rename_i c' e'
        cases e
        exact ix_str value slice pins s σ H _ _ v u Q I rx ry ⟨t, i, c', rfl, rfl, c, e', q _ _ (Same.refl H) (.str _)⟩ hs
      · cases e
    | _ => exact hq.st
  | @dct _ ks kvs n r rk =>
    obtain ⟨d, e, q⟩ := hq
    have e' : isKey b = true ∧ lookD b kvs = some d := by
      simp only [evIx] at e
      split at e
      · rename_i c
        split at e
        · rename_i w e2
          cases e
          exact ⟨(Bool.and_eq_true_iff.mp c).1, e2⟩
        · cases e
      · cases e
    obtain ⟨c, e2⟩ := e'
    obtain ⟨kk, rfl, rfl⟩ := isKey_of hb c
    cases rx
    rcases rk.look (k := kk) with ⟨e1, _⟩ | ⟨d', w, e1, e3, e4⟩
    · rw [e1] at e2; cases e2
    · rw [e1] at e2
      cases e2
      have g : DGet H _ (kV kk) (some w) := .inl ⟨_, kk, r, rfl, e3.symm⟩
      exact ixd_of PySem.F.slot_dict_getitem.lookup hs (dict_typeIs I g) (d_getItem hu I g ry fun w' s3 I3 rw' => ⟨w, H, I3, rw', q _ _ (Same.refl H) e4⟩)
  | @dtt _ ks kvs n r z rk =>
    obtain ⟨d, e, q⟩ := hq
    simp only [evIx] at e
    rw [rk.notNo z, Bool.and_false, if_neg Bool.false_ne_true] at e
    cases e
  | _ => cases hb <;> exact hq.st
def rSl (x : V) (lo hi : Option Int) (H : Hp) (Q : VK) : Prop := ∃ A a, Trk A H ∧ Rp A H x a ∧ Aft A H (evSl a lo hi) Q
theorem sl_D : SlR X rSl := by
  intro pins s σ H x v vl vu lo hi sl Q I rx hs pl pu h
  obtain ⟨A, a, tr, ha, hq⟩ := h
  cases ha with
  | lst n r z ra =>
    refine sl_list pins s σ H _ v vl vu lo hi sl Q I rx hs pl pu ⟨_, _, rfl, .inl r, fun p hp => hq.of _ _ (same_upd hp) ?_⟩
    unfold cutV cutD
    rw [ra.length]
    exact Rp.newL tr hp (Nat.le_trans (by rw [← ra.length]; exact cutV_length _ lo hi) z) ((ra.drop _).take _)
  | tup n r z ra =>
    refine sl_tupN pins s σ H _ v vl vu lo hi sl Q I rx hs pl pu ⟨_, _, rfl, r.sq, fun e => hq.of _ _ (Same.refl H) ?_, fun _ p o hp hd => hq.of _ _ (same_upd hp) ?_⟩
    · unfold cutD
      rw [← ra.length, e.1, e.2, List.drop_zero, Nat.sub_zero, ra.length, List.take_length]
      exact .tup n r z ra
    · unfold cutV cutD
      rw [ra.length]
      exact Rp.newT tr hp hd (Nat.le_trans (by rw [← ra.length]; exact cutV_length _ lo hi) z) ((ra.drop _).take _)
  | str t =>
    obtain ⟨c, hq⟩ := hq.ite
    exact sl_str pins s σ H _ v vl vu lo hi sl Q I rx hs pl pu ⟨t, rfl, c, hq.of _ _ (Same.refl H) (.str _)⟩
  | _ => exact hq.st
def rB1 (b : Bi) : List V → Hp → VK → Prop := fun vs H Q => ∃ A a x, vs = [x] ∧ Trk A H ∧ Rp A H x a ∧ Aft A H (evBi b [a]) Q
def rB2 (b : Bi) : List V → Hp → VK → Prop := fun vs H Q => ∃ A a c x y, vs = [x, y] ∧ Trk A H ∧ Rp A H x a ∧ Rp A H y c ∧ Aft A H (evBi b [a, c]) Q
theorem c_len : CallR X (.builtin "len") (rB1 .len) := by
  intro pins s σ H xs us Q I r h
  obtain ⟨A, a, x, rfl, tr, ha, hq⟩ := h
  cases ha with
  | lst n h z ra => exact call_len_seq pins s σ H _ us Q I r ⟨_, _, rfl, .inl (.inl h), hq.of _ _ (Same.refl H) (by rw [ra.length]; exact .int _)⟩
  | tup n h z ra => exact call_len_seq pins s σ H _ us Q I r ⟨_, _, rfl, .inr h.sq, hq.of _ _ (Same.refl H) (by rw [ra.length]; exact .int _)⟩
  | str t =>
    obtain ⟨c, hq⟩ := hq.ite
    exact call_len_str pins s σ H _ us Q I r ⟨t, rfl, c, hq.of _ _ (Same.refl H) (.int _)⟩
  | @dct _ ks kvs n h rk =>
    obtain ⟨u, rfl, ru⟩ := vals1 r
    cases ru
    have hq : Aft A H (if noTK kvs then .ok (.int kvs.length) else .st) Q := hq
    rw [rk.noT, if_pos rfl] at hq
    refine d_len I h fun t s' I' => ⟨.int ks.length, H, I', ⟨t, rfl⟩, hq.of _ _ (Same.refl H) (by rw [rk.length]; exact .int _)⟩
  | @dtt _ ks kvs n h z rk =>
    have hq : Aft A H (if noTK kvs then .ok (.int kvs.length) else .st) Q := hq
    rw [rk.notNo z, if_neg Bool.false_ne_true] at hq
    exact hq.st
  | _ => exact hq.st
theorem c_abs : CallR X (.builtin "abs") (rB1 .abs) := by
  intro pins s σ H xs us Q I r h
  obtain ⟨A, a, x, rfl, tr, ha, hq⟩ := h
  cases ha with
  | int i => exact call_abs pins s σ H _ us Q I r ⟨i, rfl, hq.of _ _ (Same.refl H) (.int _)⟩
  | _ => exact hq.st
theorem c_int : CallR X (.type "int") (rB1 .int) := by
  intro pins s σ H xs us Q I r h
  obtain ⟨A, a, x, rfl, tr, ha, hq⟩ := h
  cases ha with
  | int i => exact call_int1 pins s σ H _ us Q I r (.inl ⟨i, rfl, hq.of _ _ (Same.refl H) (.int _)⟩)
  | bl i => exact call_int1 pins s σ H _ us Q I r (.inr ⟨i, rfl, hq.of _ _ (Same.refl H) (.int _)⟩)
  | str i =>
    obtain ⟨c, hq⟩ := hq.ite
    obtain ⟨d, e, q⟩ := hq
    cases e2 : PySem.intText? i with
    | none => rw [e2] at e; cases e
    | some m =>
      rw [e2] at e
      cases e
      exact call_int_str pins s σ H _ us Q I r ⟨i, m, rfl, e2, c, q _ _ (Same.refl H) (.int _)⟩
  | _ => exact hq.st
theorem c_str : CallR X (.type "str") (rB1 .str) := by
  intro pins s σ H xs us Q I r h
  obtain ⟨A, a, x, rfl, tr, ha, hq⟩ := h
  cases ha with
  | int i =>
    obtain ⟨c, hq⟩ := hq.ite
    exact call_str_int pins s σ H _ us Q I r ⟨i, rfl, c, hq.of _ _ (Same.refl H) (.str _)⟩
  | _ => exact hq.st
theorem c_tuple : CallR X (.type "tuple") (rB1 .tuple) := by
  intro pins s σ H xs us Q I r h
  obtain ⟨A, a, x, rfl, tr, ha, hq⟩ := h
  cases ha with
  | lst n h z ra => exact call_tupleN pins s σ H _ us Q I r ⟨_, _, rfl, .inl ⟨.inl h, fun l o hl hd => hq.of _ _ (same_upd hl) (Rp.newT tr hl hd z ra)⟩⟩
  | tup n h z ra => exact call_tupleN pins s σ H _ us Q I r ⟨_, _, rfl, .inr ⟨h.sq, hq.of _ _ (Same.refl H) (.tup n h z ra)⟩⟩
  | _ => exact hq.st
theorem c_list : CallR X (.type "list") (rB1 .list) := by
  intro pins s σ H xs us Q I r h
  obtain ⟨A, a, x, rfl, tr, ha, hq⟩ := h
  cases ha with
  | lst n h z ra => exact call_list_of pins s σ H _ us Q I r ⟨_, _, rfl, .inl (.inl h), fun l hl => hq.of _ _ (same_upd hl) (Rp.newL tr hl z ra)⟩
  | tup n h z ra => exact call_list_of pins s σ H _ us Q I r ⟨_, _, rfl, .inr h.sq, fun l hl => hq.of _ _ (same_upd hl) (Rp.newL tr hl z ra)⟩
  | _ => exact hq.st
theorem c_sum (hc : X.calm = true) : CallR X (.builtin "sum") (rB1 .sum) := by
  intro pins s σ H xs us Q I r h
  obtain ⟨A, a, x, rfl, tr, ha, hq⟩ := h
  cases ha with
  | lst n h z ra =>
    obtain ⟨d, e, q⟩ := hq
    simp only [evBi] at e
    split at e
    · rename_i ns e'
      cases e
      rw [ra.asInts e'] at h
      exact cr_sum hc pins s σ H _ us Q I r ⟨_, ns, rfl, .inl h, q _ _ (Same.refl H) (.int _)⟩
    · cases e
  | _ => exact hq.st
theorem c_all (hc : X.calm = true) : CallR X (.builtin "all") (rB1 .all) := by
  intro pins s σ H xs us Q I r h
  obtain ⟨A, a, x, rfl, tr, ha, hq⟩ := h
  cases ha with
  | lst n h z ra =>
    obtain ⟨d, e, q⟩ := hq
    simp only [evBi] at e
    split at e
    · rename_i ns e'
      cases e
      rw [asBools_some e'] at ra
      rw [ra.bools] at h
      exact cr_all hc pins s σ H _ us Q I r ⟨_, ns, rfl, .inl h, q _ _ (Same.refl H) (.bl _)⟩
    · cases e
  | _ => exact hq.st
theorem c_any (hc : X.calm = true) : CallR X (.builtin "any") (rB1 .any) := by
  intro pins s σ H xs us Q I r h
  obtain ⟨A, a, x, rfl, tr, ha, hq⟩ := h
  cases ha with
  | lst n h z ra =>
    obtain ⟨d, e, q⟩ := hq
    simp only [evBi] at e
    split at e
    · rename_i ns e'
      cases e
      rw [asBools_some e'] at ra
      rw [ra.bools] at h
      exact cr_any hc pins s σ H _ us Q I r ⟨_, ns, rfl, .inl h, q _ _ (Same.refl H) (.bl _)⟩
    · cases e
  | _ => exact hq.st
theorem minL_spec : ∀ (r : List Int) (x : Int), minL x r ∈ x :: r ∧ ∀ y ∈ x :: r, minL x r ≤ y
  | [], x => by simp [minL]
  | y :: r, x => by
    have ih := minL_spec r (if y < x then y else x)
    unfold minL
    by_cases h : y < x
    · simp only [h, if_true] at ih ⊢
      refine ⟨List.mem_cons_of_mem _ ih.1, fun z hz => ?_⟩
      have h1 := ih.2 y List.mem_cons_self
      rcases List.mem_cons.mp hz with rfl | hz
      · omega
      · exact ih.2 z hz
    · simp only [h, if_false] at ih ⊢
      have h1 := ih.2 x List.mem_cons_self
      refine ⟨?_, fun z hz => ?_⟩
      · rcases List.mem_cons.mp ih.1 with e | e
        · rw [e]; exact List.mem_cons_self
        · exact List.mem_cons_of_mem _ (List.mem_cons_of_mem _ e)
      · rcases List.mem_cons.mp hz with rfl | hz
        · exact h1
        · rcases List.mem_cons.mp hz with rfl | hz
          · omega
          · exact ih.2 z (List.mem_cons_of_mem _ hz)
theorem maxL_spec : ∀ (r : List Int) (x : Int), maxL x r ∈ x :: r ∧ ∀ y ∈ x :: r, y ≤ maxL x r
  | [], x => by simp [maxL]
  | y :: r, x => by
    have ih := maxL_spec r (if y > x then y else x)
    unfold maxL
    by_cases h : y > x
    · simp only [h, if_true] at ih ⊢
      refine ⟨List.mem_cons_of_mem _ ih.1, fun z hz => ?_⟩
      have h1 := ih.2 y List.mem_cons_self
      rcases List.mem_cons.mp hz with rfl | hz
      · omega
      · exact ih.2 z hz
    · simp only [h, if_false] at ih ⊢
      have h1 := ih.2 x List.mem_cons_self
      refine ⟨?_, fun z hz => ?_⟩
      · rcases List.mem_cons.mp ih.1 with e | e
        · rw [e]; exact List.mem_cons_self
        · exact List.mem_cons_of_mem _ (List.mem_cons_of_mem _ e)
      · rcases List.mem_cons.mp hz with rfl | hz
        · exact h1
        · rcases List.mem_cons.mp hz with rfl | hz
          · omega
          · exact ih.2 z (List.mem_cons_of_mem _ hz)
theorem sortOk_iff {l : List D} (h : sortOk l = true) : W.AllAlike l ∧ W.Sortable l ∧ PyData.depthAll l ≤ 60 := by
  unfold sortOk at h
  simp only [Bool.and_eq_true, Bool.or_eq_true, List.all_eq_true, decide_eq_true_eq] at h
  obtain ⟨⟨h1, h2⟩, h3⟩ := h
  refine ⟨fun d hd e he => h1 d hd e he, ?_, h3⟩
  rcases h2 with h2 | h2
  · left
    intro d hd
    have := h2 d hd
    split at this
    · exact ⟨_, _, rfl⟩
    · cases this
  · right
    intro d hd
    have := h2 d hd
    split at this
    · cases this
    · cases this
    · rename_i h4 h5
      exact ⟨fun e => h4 e, fun xs e => h5 xs e⟩
theorem depthAll_mem : ∀ {l : List D} {d : D}, d ∈ l → d.depth ≤ PyData.depthAll l
  | x :: l, d, h => by
    simp only [PyData.depthAll]
    rcases List.mem_cons.mp h with rfl | h
    · exact Nat.le_max_left _ _
    · exact Nat.le_trans (depthAll_mem h) (Nat.le_max_right _ _)
theorem c_min1 (hc : X.calm = true) (hu : X.A.units + 100 < cLine) : CallR X (.builtin "min") (rB1 .min1) := by
  intro pins s σ H xs us Q I r h
  obtain ⟨A, a, x, rfl, tr, ha, hq⟩ := h
  cases ha with
  | @lst p ws ds n h z ra =>
    obtain ⟨d, e, q⟩ := hq
    simp only [evBi] at e
    split at e
    · rename_i y t e'
      cases e
      rw [ra.asInts e'] at h
      refine cr_min hc pins s σ H _ us Q I r ⟨_, _, rfl, .inl h, by simp, fun m h1 h2 => ?_⟩
      obtain ⟨g1, g2⟩ := minL_spec t y
      have : m = minL y t := Int.le_antisymm (h2 _ g1) (g2 _ h1)
      rw [this]
      exact q _ _ (Same.refl H) (.int _)
    · split at e
      · rename_i y t hne
        split at e
        · rename_i c
          cases e
          obtain ⟨h1, h2, h3⟩ := sortOk_iff c
          obtain ⟨u, rfl, ru⟩ := vals1 r
          cases ru
          obtain ⟨its, rv, hl, hz⟩ := I.list (.inl h)
          obtain ⟨as, rd⟩ := Dp.readsAll I _ _ its (RpA.dp _ _ (noDs_mem fun e m => noD_alike e (h1 e m e m)) ra) rv
          have hn : ∀ d ∈ y :: t, d ≠ .none := by
            rcases h2 with h2 | h2
            · intro d hd e
              obtain ⟨a, b, e2⟩ := h2 d hd
              rw [e] at e2; cases e2
            · exact fun d hd => (h2 d hd).1
          refine W.min_list_data (I.ok.hd hc) hl.isList rd ⟨fun a ha b hb => h1 a ha b hb, hn⟩ (by omega) fun i v h' tk bs hi hr hk => ?_
          have hi' : its[i]? = some v := by simpa using hi
          have hlen := rv.length
          have hil : i < ws.length := by
            have := (List.getElem?_eq_some_iff.mp hi').1
            omega
          obtain ⟨w, hw, rw'⟩ : ∃ w, ws[i]? = some w ∧ RelV w v := by
            obtain ⟨u', e1, e2⟩ := rv.get (List.getElem?_eq_getElem hil)
            rw [hi'] at e1; cases e1
            exact ⟨_, List.getElem?_eq_getElem hil, e2⟩
          obtain ⟨d, hd, hrp⟩ := ra.getV hw
          obtain ⟨as2, rd2⟩ := Dp.reads I d w v (Rp.dp _ _ (noD_alike d (h1 d (List.mem_of_getElem? hd) d (List.mem_of_getElem? hd))) hrp) rw'
          have hdm : d ∈ y :: t := List.mem_of_getElem? hd
          have hmm : W.minD y t ∈ y :: t := by
            have : ∀ (l : List D) (z : D), W.minD z l ∈ z :: l := by
              intro l
              induction l with
              | nil => intro z; simp [W.minD]
              | cons b l ih =>
                intro z
                have := ih (if W.dataLt b z then b else z)
                have e : W.minD z (b :: l) = W.minD (if W.dataLt b z then b else z) l := rfl
                rw [e]
                rcases List.mem_cons.mp this with e2 | e2
                · rw [e2]
                  split
                  · exact List.mem_cons_of_mem _ List.mem_cons_self
                  · exact List.mem_cons_self
                · exact List.mem_cons_of_mem _ (List.mem_cons_of_mem _ e2)
            exact this t y
          have e3 : W.minD y t = d := W.alike_unique _ _ v _ _ (h1 _ hmm _ hdm) hr (PyProof.Rows.Reads.keeps hk rd2)
          rw [e3] at q
          exact ⟨w, H, I.kept (t' := tk) hk, rw', q _ _ (Same.refl H) hrp⟩
        · cases e
      · cases e
  | _ => exact hq.st
theorem c_max1 (hc : X.calm = true) : CallR X (.builtin "max") (rB1 .max1) := by
  intro pins s σ H xs us Q I r h
  obtain ⟨A, a, x, rfl, tr, ha, hq⟩ := h
  cases ha with
  | lst n h z ra =>
    obtain ⟨d, e, q⟩ := hq
    simp only [evBi] at e
    split at e
    · rename_i y t e'
      cases e
      rw [ra.asInts e'] at h
      refine cr_max hc pins s σ H _ us Q I r ⟨_, _, rfl, .inl h, by simp, fun m h1 h2 => ?_⟩
      obtain ⟨g1, g2⟩ := maxL_spec t y
      have : m = maxL y t := Int.le_antisymm (g2 _ h1) (h2 _ g1)
      rw [this]
      exact q _ _ (Same.refl H) (.int _)
    · cases e
  | _ => exact hq.st
theorem c_min2 (hc : X.calm = true) : CallR X (.builtin "min") (rB2 .min2) := by
  intro pins s σ H xs us Q I r h
  obtain ⟨A, a, b, x, y, rfl, tr, ha, hb, hq⟩ := h
  cases ha with
  | int i => cases hb with
    | int j => exact call_min2 hc pins s σ H _ us Q I r ⟨i, j, rfl, hq.of _ _ (Same.refl H) (.int _)⟩
    | _ => exact hq.st
  | _ => cases hb <;> exact hq.st
theorem c_max2 (hc : X.calm = true) : CallR X (.builtin "max") (rB2 .max2) := by
  intro pins s σ H xs us Q I r h
  obtain ⟨A, a, b, x, y, rfl, tr, ha, hb, hq⟩ := h
  cases ha with
  | int i => cases hb with
    | int j => exact call_max2 hc pins s σ H _ us Q I r ⟨i, j, rfl, hq.of _ _ (Same.refl H) (.int _)⟩
    | _ => exact hq.st
  | _ => cases hb <;> exact hq.st
end
theorem insI_perm (x : Int) : ∀ l, (insI x l).Perm (x :: l)
  | [] => .refl _
  | y :: r => by
    unfold insI
    split
    · exact .refl _
    · exact ((insI_perm x r).cons y).trans (.swap x y r)
theorem isort_perm : ∀ l, (isort l).Perm l
  | [] => .refl _
  | x :: r => (insI_perm x _).trans ((isort_perm r).cons x)
theorem insI_sorted (x : Int) : ∀ l, l.Pairwise (· ≤ ·) → (insI x l).Pairwise (· ≤ ·)
  | [], _ => by simp [insI]
  | y :: r, h => by
    unfold insI
    have h1 := List.pairwise_cons.mp h
    split
    · rename_i c
      exact List.pairwise_cons.mpr ⟨fun z hz => by
        rcases List.mem_cons.mp hz with rfl | hz
        · exact c
        · have := h1.1 z hz; omega, h⟩
    · rename_i c
      refine List.pairwise_cons.mpr ⟨fun z hz => ?_, insI_sorted x r h1.2⟩
      rcases List.mem_cons.mp ((insI_perm x r).mem_iff.mp hz) with rfl | hz
      · omega
      · exact h1.1 z hz
theorem isort_sorted : ∀ l, (isort l).Pairwise (· ≤ ·)
  | [] => .nil
  | x :: r => insI_sorted x _ (isort_sorted r)
theorem sorted_uniq : ∀ {l m : List Int}, l.Pairwise (· ≤ ·) → m.Pairwise (· ≤ ·) → l.Perm m → l = m
  | [], m, _, _, p => by rw [p.symm.eq_nil]
  | x :: l, m, hl, hm, p => by
    have hx : x ∈ m := p.mem_iff.mp List.mem_cons_self
    match m, hm, p, hx with
    | [], _, _, hx => simp at hx
    | y :: m, hm, p, hx =>
      have hy : y ∈ x :: l := p.symm.mem_iff.mp List.mem_cons_self
      have h1 := List.pairwise_cons.mp hl
      have h2 := List.pairwise_cons.mp hm
      have e : x = y := by
        rcases List.mem_cons.mp hx with e | hx
        · exact e
        · rcases List.mem_cons.mp hy with e | hy
          · exact e.symm
          · have := h1.1 y hy
            have := h2.1 x hx
            omega
      subst e
      rw [sorted_uniq h1.2 h2.2 p.cons_inv]
section
variable {X : Cx}
theorem c_sorted (hu : X.A.units + 100 < cLine) : CallR X (.builtin "sorted") (rB1 .sorted) := by
  intro pins s σ H xs us Q I r h
  obtain ⟨A, a, x, rfl, tr, ha, hq⟩ := h
  -- the data's road
  have gen : ∀ {p : Addr} {ws : List V} {ds : List D}, ws.length ≤ sizeLine → RpA A H ws ds → (SqL X.K H p ws ∨ SqT X.K H p ws) → sortOk ds = true → (∀ v H', Same H H' → Rp A H' v (.list (ds.mergeSort (W.dataLe false id))) → Q v H') →
      wpAny (model X.prog X.w) X.A (PySem.call (.builtin "sorted") [.ref p]) (EP X pins σ Q) X.xe s := by
    intro p ws ds z ra hs c q
    obtain ⟨h1, h2, h3⟩ := sortOk_iff c
    have main : ∀ its : List Value, Vals ws its → (∀ {Q' : Value → Shared → Prop}, W.EachIs (fun v d => ∃ w, RelV w v ∧ Rp A H w d) its ds → W.EachIs (fun v d => ∃ as, Reads s.heap v (id d) as) its ds → W.AllAlike (ds.map id) → W.Sortable (ds.map id) → ds.length ≤ sizeLine →
        (∀ b, b ∈ ds → X.A.units + 2 + (id b).depth < cLine) → (∀ out, out.length = ds.length → W.EachIs (fun v d => ∃ w, RelV w v ∧ Rp A H w d) out (ds.mergeSort (W.dataLe false id)) → Q' (.ref (s.heap.objs.size + 1)) { s with heap := sortedAll s.heap its (List.toArray out) }) →
        wpAny (model X.prog X.w) X.A (PySem.call (.builtin "sorted") [.ref p]) Q' X.xe s) → wpAny (model X.prog X.w) X.A (PySem.call (.builtin "sorted") [.ref p]) (EP X pins σ Q) X.xe s := by
      intro its rv road
      have e1 : W.EachIs (fun v d => ∃ w, RelV w v ∧ Rp A H w d) its ds := by
        clear road q h1 h2 h3 c hs z
        induction rv generalizing ds with
        | nil => cases ra; exact .nil
        | cons r1 r2 ih => cases ra with
          | cons a1 a2 => exact .cons ⟨_, r1, a1⟩ (ih a2)
      have nds : noDs ds = true := noDs_mem fun e m => noD_alike e (h1 e m e m)
      have e1' : W.EachIs (fun v d => ∃ w, RelV w v ∧ Rp A H w d ∧ noD d = true) its ds := by
        clear road q h1 h2 h3 c hs z e1
        induction rv generalizing ds with
        | nil => cases ra; exact .nil
        | cons r1 r2 ih => cases ra with
          | cons a1 a2 =>
            simp only [noDs, Bool.and_eq_true] at nds
            exact .cons ⟨_, r1, a1, nds.1⟩ (ih a2 nds.2)
      have e2 : W.EachIs (fun v d => ∃ as, Reads s.heap v (id d) as) its ds := e1'.mono fun v d ⟨w, r1, r2, r3⟩ => Dp.reads I d w v (Rp.dp _ _ r3 r2) r1
      refine road e1 e2 (by simpa using h1) (by simpa using h2) (by rw [← ra.length]; exact z) (fun b hb => by have := depthAll_mem hb; show X.A.units + 2 + b.depth < cLine; omega) fun out ho he => ?_
      obtain ⟨ws', rv', ra'⟩ : ∃ ws', Vals ws' out ∧ RpA A H ws' (ds.mergeSort (W.dataLe false id)) := by
        generalize ds.mergeSort (W.dataLe false id) = es at he
        clear ho
        induction he with
        | nil => exact ⟨[], .nil, .nil⟩
        | cons h1 _ ih =>
          obtain ⟨w, r1, r2⟩ := h1
          obtain ⟨ws', g1, g2⟩ := ih
          exact ⟨w :: ws', .cons r1 g1, .cons r2 g2⟩
      have hz : ws'.length ≤ sizeLine := by rw [rv'.length, ho, ← ra.length]; exact z
      obtain ⟨ep, he'⟩ := PyProof.Rows.sortedAll_at s.heap its out.toArray
      have hp := I.hok.fresh (Nat.le_succ s.heap.objs.size)
      exact ⟨.ref _, upd H (s.heap.objs.size + 1) (.lst ws'), I.laid (t' := s.toks) (fun _ _ => PyProof.Rows.sortedAll_old) (Nat.le_succ _) ⟨hz, out, ep, rv', he'⟩, rfl, q _ _ (same_upd hp) (Rp.newL tr hp hz ra')⟩
    rcases hs with hs | hs
    · obtain ⟨its, rv, hl, _⟩ := I.list hs
      exact main its rv fun e1 e2 e3 e4 e5 e6 e7 => W.sorted_data hl.isList e1 e2 e3 e4 e5 e6 e7
    · obtain ⟨its, rv, hl, _⟩ := I.tuple hs
      exact main its rv fun e1 e2 e3 e4 e5 e6 e7 => sorted_dataT hl e1 e2 e3 e4 e5 e6 e7
  cases ha with
  | lst n h z ra =>
    obtain ⟨d, e, q⟩ := hq
    simp only [evBi] at e
    split at e
    · rename_i ns e'
      cases e
      rw [ra.asInts e'] at h
      refine cr_sortedI pins s σ H _ us Q I r ⟨_, ns, rfl, .inl h, fun ns' p h1 h2 hp => ?_⟩
      rw [sorted_uniq h2 (isort_sorted ns) (h1.trans (isort_perm ns).symm)]
      refine q _ _ (same_upd hp) (Rp.newL tr hp ?_ RpA.ofInts)
      rw [ra.asInts e'] at z
      simpa [(isort_perm ns).length_eq] using z
    · split at e
      · rename_i c
        cases e
        obtain ⟨u, rfl, ru⟩ := vals1 r
        cases ru
        exact gen z ra (.inl (.inl h)) c q
      · cases e
  | tup n h z ra =>
    obtain ⟨d, e, q⟩ := hq
    obtain ⟨u, rfl, ru⟩ := vals1 r
    cases ru
    simp only [evBi] at e
    split at e
    · rename_i ns e'
      cases e
      have e2 := asInts_some e'
      subst e2
      refine gen z ra (.inr h.sq) ?_ ?_
      · unfold sortOk
        simp only [Bool.and_eq_true, Bool.or_eq_true, List.all_eq_true, decide_eq_true_eq]
        refine ⟨⟨fun d hd e he => ?_, .inr fun d hd => ?_⟩, ?_⟩
        · obtain ⟨i, _, rfl⟩ := List.mem_map.mp hd
          obtain ⟨j, _, rfl⟩ := List.mem_map.mp he
          simp [W.alike]
        · obtain ⟨i, _, rfl⟩ := List.mem_map.mp hd
          rfl
        · rw [W.depth_ints]; decide
      · have e3 : (ns.map PyData.int).mergeSort (W.dataLe false id) = (isort ns).map PyData.int := by
          have e4 := List.map_mergeSort (r := fun a b : Int => decide (a ≤ b)) (s := W.dataLe false id) (f := PyData.int) (l := ns) fun a _ b _ => by
            show decide (a ≤ b) = !W.dataLt (.int b) (.int a)
            rw [W.dataLt_int, ← decide_not]
            congr 1
            apply propext; omega
          rw [← e4]
          congr 1
          refine sorted_uniq ?_ (isort_sorted ns) ((List.mergeSort_perm ns _).trans (isort_perm ns).symm)
          have := List.pairwise_mergeSort (le := fun a b : Int => decide (a ≤ b)) (fun a b c h1 h2 => by simp at h1 h2 ⊢; omega) (fun a b => by simp; omega) ns
          exact this.imp (by simp)
        rw [e3]
        exact q
    · split at e
      · rename_i c
        cases e
        exact gen z ra (.inr h.sq) c q
      · cases e
  | _ => exact hq.st
end
end PC
set_option Elab.async false
set_option linter.all false
namespace PC
open PySem PySem.Spec PyProof.Rows L2
section
variable {prog : Program} {w : World} {A : Around} {E : Value → Shared → Prop} {s : Shared}
theorem adjust_rev (n : Nat) : Builtin.Slice.sliceAdjust none none (-1) (n : Int) = ((n : Int) - 1, -1) := by
  unfold Builtin.Slice.sliceAdjust
  simp
theorem places_rev (n : Nat) : Builtin.Slice.slicePlaces ((n : Int) - 1) (-1) (-1) = n := by
  unfold Builtin.Slice.slicePlaces
  simp
  split <;> omega
theorem sliceApplied_rev {sl : Addr} {vl vu vs : Value} {n : Nat} {Q : Int × Int × Nat → Shared → Prop} (hs : s.heap.IsSliceOf sl vl vu vs) (pl : IsPart vl none) (pu : IsPart vu none) (ps : IsPart vs (some (-1)))
    (h : Q ((n : Int) - 1, -1, n) s) : wpAny (model prog w) A (Builtin.Slice.sliceApplied (.ref sl) (pure (n : Int))) Q E s := by
  obtain ⟨os, hos, hcs, hds⟩ := id hs
  unfold Builtin.Slice.sliceApplied Builtin.Slice.sliceFields
  refine wpAny_bind (wpAny_bind (wpAny_field hos hds (x := vl) rfl (wpAny_bind (wpAny_field hos hds (x := vu) rfl (wpAny_bind (wpAny_field hos hds (x := vs) rfl (wpAny_pure ?_)))))))
  refine wpAny_bind (HT.slicePart_ ps ?_)
  show wpAny _ _ (if ((-1 : Int) == 0) = true then _ else _) _ _ s
  rw [if_neg (by decide)]
  refine wpAny_bind (HT.slicePart_ pl (wpAny_bind (HT.slicePart_ pu (wpAny_bind (wpAny_pure ?_)))))
  show wpAny _ _ (match Builtin.Slice.sliceAdjust none none (-1) (n : Int) with | (lo, hi) => pure (lo, (-1 : Int), Builtin.Slice.slicePlaces lo hi (-1))) _ _ s
  rw [adjust_rev]
  show wpAny _ _ (pure ((n : Int) - 1, (-1 : Int), Builtin.Slice.slicePlaces ((n : Int) - 1) (-1) (-1))) _ _ s
  rw [places_rev]
  exact wpAny_pure h
theorem fm_map {α β : Type} {f : α → Option β} {g : α → β} : ∀ l : List α, (∀ m ∈ l, f m = some (g m)) → l.filterMap f = l.map g
  | [], _ => rfl
  | x :: l, h => by
    rw [List.filterMap_cons, h x List.mem_cons_self, List.map_cons, fm_map l fun m hm => h m (List.mem_cons_of_mem _ hm)]
theorem pick_rev (xs : Array Value) : ((List.range xs.size).filterMap fun (m : Nat) => xs[((xs.size : Int) - 1 + (m : Int) * (-1)).toNat]?).toArray = xs.toList.reverse.toArray := by
  congr 1
  rw [fm_map (g := fun m => xs.toList.reverse.getD m .none) _ fun m hm => ?_]
  · apply List.ext_getElem
    · simp
    · intro i h1 h2
      simp [List.getElem?_eq_getElem h2]
  · have hm := List.mem_range.mp hm
    have e1 : ((xs.size : Int) - 1 + (m : Int) * (-1)).toNat = xs.size - 1 - m := by omega
    rw [e1]
    have hl : m < xs.toList.reverse.length := by simpa using hm
    simp only [List.getD_eq_getElem?_getD, List.getElem?_eq_getElem hl, Option.getD_some]
    rw [Array.getElem?_eq_getElem (by omega)]
    simp
theorem getItem_tuple_rev {t sl : Addr} {items : Array Value} {vl vu vs : Value} {Q : Value → Shared → Prop} (ht : IsTup s.heap t items) (hs : s.heap.IsSliceOf sl vl vu vs) (pl : IsPart vl none) (pu : IsPart vu none) (ps : IsPart vs (some (-1)))
    (h : Q (.ref s.heap.objs.size) { s with heap := s.heap.push { cls := .type "tuple", data := .seq items.toList.reverse.toArray } })
    (hsz : items.size ≤ sizeLine) : wpAny (model prog w) A (getItem (.ref t) (.ref sl)) Q E s := by
  have htake : sizeOk (.seq items.toList.reverse.toArray) := by
    show items.toList.reverse.toArray.size ≤ sizeLine
    simpa using hsz
  obtain ⟨os, hos, hcs, hds⟩ := id hs
  have hTs : s.TypeIs (.ref sl) "slice" := ⟨os, hos, hcs⟩
  unfold getItem
  try with_reducible refine wpAny_holding ?_
  first | refine wpAny_bind (wpAny_pure ?_) | skip
  refine wpAny_bind (wpAny_sequenceKey ht.typeIs (by decide) ?_)
  refine wpAny_bind (wpAny_callSpecial?_slot (name := Str.ofString "__getitem__") ht.typeIs PyProof.Rows.slot_tuple_getitem
    (wpAny_call_entry PyProof.Rows.slot_tuple_getitem ht.typeIs entry_tuple_getitem ?_ (args_tuple_getitem _ _)))
  show wpAny _ _ (Builtin.Tuple.tupleItemsOf (.ref t) >>= _) _ _ s
  refine wpAny_bind (tupleItemsOf_ ht ?_)
  refine wpAny_bind (wpAny_typeOf hTs ?_)
  rw [if_pos (by decide)]
  refine wpAny_bind (sliceApplied_rev hs pl pu ps ?_)
  have hno : ¬ ((((items.size : Int) - 1) == 0 && (-1 : Int) == 1 && items.size == items.size) = true) := by simp
  show wpAny _ _ (if (((items.size : Int) - 1) == 0 && (-1 : Int) == 1 && items.size == items.size) = true then _ else _) _ _ s
  rw [if_neg hno, pick_rev]
  first
    | exact wpAny_bind (m := Builtin.Tuple.tupleExact _) (wpAny_newObj_type (wpAny_pure ⟨_, rfl, wpAny_pure h⟩) htake)
    | exact wpAny_bind (m := Builtin.Tuple.tupleExact _) (wpAny_newObj_type (wpAny_bind (wpAny_pure (wpAny_pure ⟨_, rfl, wpAny_pure h⟩))) htake)
    | exact wpAny_bind (wpAny_bind (m := Builtin.Tuple.tupleExact _) (wpAny_newObj_type (wpAny_pure (wpAny_pure ⟨_, rfl, wpAny_pure h⟩)) htake))
    | exact wpAny_bind (wpAny_bind (m := Builtin.Tuple.tupleExact _) (wpAny_newObj_type (wpAny_pure ⟨_, rfl, wpAny_pure h⟩) htake))
end
def revD : D → R D
  | .list l => .ok (.list l.reverse)
  | .tuple l => .ok (.tuple l.reverse)
  | _ => .st
section
variable {X : Cx}
def tU (f : D → R D) (te : TE) : TE := fun σ H Q => te σ H fun x H1 => ∃ A d, Trk A H1 ∧ Rp A H1 x d ∧ Aft A H1 (f d) Q
theorem pe_rev {e : Expr} {te : TE} {k : Nat} {p1 p2 p3 pos : Pos} (he : PE X e te) : PE X (.Subscript e (.Slice none none (some (.UnaryOp .USub (.Constant (.int 1) k p1) p2)) p3) pos) (tU revD te) := by
  refine ⟨fun pins s σ H Q I h => ?_⟩
  refine Subscript_ (thn (he.run pins s σ H _ I h) fun v s1 ⟨x, H1, I1, r1, A, d, tr, hd, q⟩ => ?_)
  have hst : PO X (some (.UnaryOp .USub (.Constant (.int 1) k p1) p2)) (tPart (tUn (rU fun i => .int (-i)) (tC (.int 1)))) := po_some (pe_un un_neg pe_int)
  refine wpAny_Slice (thn (po_none.run pins s1 σ H1 (fun o H2 => o = none ∧ H2 = H1) I1 ⟨rfl, rfl⟩) fun vl s2 ⟨l, H2, I2, pl, el, e2⟩ => ?_)
  subst el e2
  refine thn (po_none.run pins s2 σ H2 (fun o H3 => o = none ∧ H3 = H2) I2 ⟨rfl, rfl⟩) fun vu s3 ⟨u, H3, I3, pu, eu, e3⟩ => ?_
  subst eu e3
  refine thn (hst.run pins s3 σ H3 (fun o H4 => o = some (-1) ∧ H4 = H3) I3 ⟨1, rfl, -1, rfl, rfl, rfl⟩) fun vs s4 ⟨o, H4, I4, ps, eo, e4⟩ => ?_
  subst eo e4
  have I5 : Inv X pins σ H4 { s4 with heap := s4.heap.push { cls := .type "slice", data := .fields #[vl, vu, vs] } } := I4.kept (t' := s4.toks) fun b ob q => Heap.get?_push_of_some _ q
  have hp := I5.hok.fresh (Nat.le_refl _)
  cases hd with
  | @lst a xs ds n hr z ra =>
    cases r1
    obtain ⟨its, r, ht, hz⟩ := I5.list (.inl hr)
    have hlen := r.length
    show wpAny (model X.prog X.w) X.A (subscriptTail e (.Slice none none (some (.UnaryOp .USub (.Constant (.int 1) k p1) p2)) p3) (.ref a) (.ref s4.heap.objs.size)) (EP X pins σ Q) X.xe { s4 with heap := s4.heap.push { cls := .type "slice", data := .fields #[vl, vu, vs] } }
    refine tail_any (ops := [.ref a, .ref s4.heap.objs.size]) ht.isList.typeIs (PySem.slot_list_getitem.lookup) ?_ (by with_unfolding_all rfl)
    refine wpAny_getItem_list_slice ht.isList (Heap.IsSliceOf.new _ vl vu vs) pl pu ps (by decide) ?_ (by rw [List.size_toArray]; omega)
    rw [PySem.W.krv_pick]
    refine ⟨.ref _, _, I5.laid (t' := s4.toks) (o := .lst xs.reverse) (fun b ob q => Heap.get?_push_of_some _ q) (Nat.le_refl _) ?_, rfl, q.of _ _ (same_upd hp) (Rp.newL tr hp (by rw [List.length_reverse]; exact z) ra.reverse)⟩
    exact ⟨by rw [List.length_reverse]; exact hz, _, 0, r.reverse, Heap.get?_push_size _ rfl⟩
  | @tup a xs ds n hr z ra =>
    cases r1
    obtain ⟨its, r, ht, hz⟩ := I5.tuple hr.sq
    have hlen := r.length
    show wpAny (model X.prog X.w) X.A (subscriptTail e (.Slice none none (some (.UnaryOp .USub (.Constant (.int 1) k p1) p2)) p3) (.ref a) (.ref s4.heap.objs.size)) (EP X pins σ Q) X.xe { s4 with heap := s4.heap.push { cls := .type "slice", data := .fields #[vl, vu, vs] } }
    refine tail_any (ops := [.ref a, .ref s4.heap.objs.size]) ht.typeIs (PyProof.Rows.slot_tuple_getitem.lookup) ?_ (by with_unfolding_all rfl)
    refine getItem_tuple_rev ht (Heap.IsSliceOf.new _ vl vu vs) pl pu ps ?_ (by rw [List.size_toArray]; omega)
    refine ⟨.ref _, _, I5.laid (t' := s4.toks) (o := .frz { cls := .type "tuple", data := .seq its.reverse.toArray } (.tup xs.reverse)) (fun b ob q => Heap.get?_push_of_some _ q) (Nat.le_refl _) ?_, rfl, q.of _ _ (same_upd hp) (Rp.newT tr hp rfl (by rw [List.length_reverse]; exact z) ra.reverse)⟩
    exact ⟨Heap.get?_push_size _ rfl, by rw [List.length_reverse]; exact hz, _, r.reverse, ⟨_, Heap.get?_push_size _ rfl, rfl, 0, rfl⟩⟩
  | _ => exact q.st
theorem nodupI_spec : ∀ ns : List Int, (nodupI ns).Nodup ∧ ∀ k, k ∈ nodupI ns ↔ k ∈ ns
  | [] => by simp [nodupI]
  | x :: r => by
    obtain ⟨h1, h2⟩ := nodupI_spec r
    unfold nodupI
    split
    · rename_i c
      refine ⟨h1, fun k => ?_⟩
      rw [h2]
      constructor
      · exact List.mem_cons_of_mem _
      · intro h
        rcases List.mem_cons.mp h with rfl | h
        · exact c
        · exact h
    · rename_i c
      refine ⟨List.nodup_cons.mpr ⟨fun h => c ((h2 x).mp h), h1⟩, fun k => ?_⟩
      simp [h2]
theorem nodupI_le : ∀ ns : List Int, (nodupI ns).length ≤ ns.length
  | [] => Nat.le_refl _
  | x :: r => by
    have := nodupI_le r
    unfold nodupI
    split
    · simp only [List.length_cons]; omega
    · simp only [List.length_cons]; omega
theorem fm_nodup (val : Nat → Int) : ∀ i, (PyProof.Rows.firstMet val i).Nodup
  | 0 => List.nodup_nil
  | i + 1 => by
    rw [PyProof.Rows.firstMet_succ]
    have ih := fm_nodup val i
    unfold PyProof.Rows.step_dedup
    split
    · exact ih
    · rename_i c
      refine List.nodup_append.mpr ⟨ih, List.nodup_cons.mpr ⟨List.not_mem_nil, List.nodup_nil⟩, fun a ha b hb e => c ?_⟩
      rw [List.mem_singleton.mp hb] at e
      subst e
      simpa using ha
theorem fm_len (ns : List Int) : (PyProof.Rows.firstMet (fun i => ns.getD i 0) ns.length).length = (nodupI ns).length := by
  obtain ⟨g1, g2⟩ := nodupI_spec ns
  refine ((List.perm_ext_iff_of_nodup (fm_nodup _ _) g1).mpr fun k => ?_).length_eq
  rw [g2]
  have h := PyProof.Rows.firstMet_any (fun i => ns.getD i 0) ns.length k
  have e : (List.range ns.length).map (fun i => ns.getD i 0) = ns := by
    refine List.ext_getElem (by simp) fun i h1 h2 => ?_
    simp [List.getD_eq_getElem?_getD, List.getElem?_eq_getElem h2]
  rw [e] at h
  rw [Bool.eq_iff_iff] at h
  simpa using h
theorem pe_lenSetD {a : Expr} {ta : TE} {p p2 q pos : Pos} (hc : X.calm = true) (hg : Gl X "len") (hm : X.mg "len" = none) (hg2 : Gl X "set") (hm2 : X.mg "set" = none) (ha : PE X a ta)
    (na : starEach [a] X.env = (false, eval a X.env) :: starEach [] X.env := by rfl) : PE X (.Call (.Name "len" p) [.Call (.Name "set" p2) [a] [] q] [] pos) (tU (fun d => evBi .lenSet [d]) ta) := by
  refine ⟨fun pins s σ H Q I h => ?_⟩
  refine Call_ (ld_blt I hg hm PySem.boot_len ?_)
  refine PyProof.Rows.callWith_builtin1 (PyProof.Rows.args_cons ?_ rfl) rfl rfl
  refine Call_ (ld_blt I hg2 hm2 PyProof.Rows.boot_set ?_)
  refine PyProof.Rows.callWith_type1 (PyProof.Rows.args_cons (thn (ha.run pins s σ H _ I h) fun v s1 ⟨x, H1, I1, r1, q1⟩ => PyProof.Rows.args_nil ?_) na) na rfl
  obtain ⟨A, d, tr, hd, hq⟩ := q1
  cases hd with
  | tup n hr z ra =>
    cases r1
    obtain ⟨e, he, q⟩ := hq
    simp only [evBi] at he
    split at he
    · rename_i ns e'
      split at he
      · rename_i c
        cases he
        have ra' := ra.asInts e'
        rw [ra'] at hr
        obtain ⟨its, r, pl, hz⟩ := I1.tuple hr.sq
        refine L2.call_set_tupI ns (I1.ok.hd hc) pl (by simpa using RZ.intsAre_vals r) (by unfold scanBound; omega) fun h' tk cc hS hcc hk => ?_
        refine PyProof.Rows.args_nil ?_
        obtain ⟨o, es, ep, t, ho, hex, hdt, _, hnd, hmem, hsb, hf, hn, _⟩ := hS
        have I2 : Inv X pins σ H1 { s1 with heap := h', toks := tk } := I1.kept fun b o e => hk b o e
        have hlen : es.size = (nodupI ns).length := by
          obtain ⟨g1, g2⟩ := nodupI_spec ns
          have := (List.perm_ext_iff_of_nodup hnd g1).mpr fun k => by
            rw [g2, ← hmem]
            exact decide_eq_true_iff
          have := this.length_eq
          simpa using this
        refine call_len_set ho hex hdt hf (by unfold scanBound at hsb; omega) ⟨.int es.size, H1, I2.tok _, ⟨_, rfl⟩, ?_⟩
        rw [hlen]
        exact q _ _ (Same.refl H1) (.int _)
      · cases he
    · cases he
  | lst n hr z ra =>
    cases r1
    obtain ⟨e, he, q⟩ := hq
    simp only [evBi] at he
    split at he
    · rename_i ns e'
      split at he
      · rename_i c
        cases he
        have ra' := ra.asInts e'
        rw [ra'] at hr
        obtain ⟨its, r, pl, hz⟩ := I1.list (.inl hr)
        have hsz : its.toArray.size = ns.length := by rw [List.size_toArray, ← r.length, List.length_map]
        refine PySem.call_set_list (I1.ok.hd hc) pl.isList (ns := ns) (by simpa using RZ.intsAre_vals r) (by rw [hsz]; unfold scanBound; omega) fun h' tk hS hk => ?_
        refine PyProof.Rows.args_nil ?_
        rw [hsz] at hS
        obtain ⟨o, es, ep, t, ho, hex, hdt, _, _, _, hf, hn⟩ := hS
        have I2 : Inv X pins σ H1 { s1 with heap := h', toks := tk } := I1.kept fun b o e => hk b o (Heap.lt_size e) e
        have hlen : es.size = (nodupI ns).length := by rw [← fm_len ns, hn]
        have hle : (nodupI ns).length ≤ ns.length := nodupI_le ns
        refine call_len_set ho hex hdt hf (by omega) ⟨.int es.size, H1, I2.tok _, ⟨_, rfl⟩, ?_⟩
        rw [hlen]
        exact q _ _ (Same.refl H1) (.int _)
      · cases he
    · cases he
  | _ => exact hq.st
/-- isinstance(x, int), .. -/
def kTy : Bi → String
  | .isInt => "int"
  | .isStr => "str"
  | .isTup => "tuple"
  | _ => "bool"
theorem isi_D {b : Bi} (hb : b = .isInt ∨ b = .isStr ∨ b = .isBool ∨ b = .isTup) : CallR X (.builtin "isinstance") (fun vs H Q => ∃ A a x, vs = [x, .ty (kTy b)] ∧ Trk A H ∧ Rp A H x a ∧ Aft A H (evBi b [a]) Q) := by
  intro pins s σ H xs us Q I r h
  obtain ⟨A, a, x, rfl, tr, ha, hq⟩ := h
  have go : ∀ (t : String) (k : Bool), TyX X.K H x (.type t) → kitB t (kTy b) = some k → Q (.bl k) H → wpAny (model X.prog X.w) X.A (PySem.call (.builtin "isinstance") us) (EP X pins σ Q) X.xe s :=
    fun t k h1 h2 h3 => call_isi pins s σ H _ us Q I r ⟨x, _, _, _, k, rfl, .ty _, h1, kit_ty h2, h3⟩
  have lstT : ∀ {p : Addr} {xs : List V}, Rd H p (.lst xs) → TyX X.K H (.ref p) (.type "list") := fun h => by
    rcases h with h | ⟨o, h⟩
    · exact .base (.lst h)
    · exact .base (.frz h)
  have tupX : ∀ {p : Addr} {xs : List V}, Tp H p xs → TyX X.K H (.ref p) (.type "tuple") := fun ⟨_, h, _⟩ => .fTuple h
  rcases hb with rfl | rfl | rfl | rfl <;> cases ha with
  | non => first | exact hq.st | exact go "NoneType" _ (.base .non) (by decide +kernel) (hq.of _ _ (Same.refl H) (.bl _))
  | bl i => first | exact hq.st | exact go "bool" _ (.base (.bl _)) (by decide +kernel) (hq.of _ _ (Same.refl H) (.bl _))
  | int i => first | exact hq.st | exact go "int" _ (.base (.int _)) (by decide +kernel) (hq.of _ _ (Same.refl H) (.bl _))
  | str i => first | exact hq.st | exact go "str" _ (.base (.str _)) (by decide +kernel) (hq.of _ _ (Same.refl H) (.bl _))
  | lst n h z ra => first | exact hq.st | exact go "list" _ (lstT h) (by decide +kernel) (hq.of _ _ (Same.refl H) (.bl _))
  | tup n h z ra => first | exact hq.st | exact go "tuple" _ (tupX h) (by decide +kernel) (hq.of _ _ (Same.refl H) (.bl _))
  | dct n h rk => exact hq.st
  | dtt n h z rk => exact hq.st
theorem indexD_spec {d : D} : ∀ (l : List D) (k m : Int), indexD l d k = some m → ∃ (j : Nat) (z : D), m = k + j ∧ l[j]? = some z ∧ PyData.eqv z d = true ∧ ∀ (i : Nat) (z' : D), i < j → l[i]? = some z' → PyData.eqv z' d = false
  | [], k, m, h => by simp [indexD] at h
  | y :: r, k, m, h => by
    unfold indexD at h
    split at h
    · rename_i c
      cases h
      exact ⟨0, y, by simp, rfl, c, fun i z' hi => by omega⟩
    · rename_i c
      obtain ⟨j, z, e1, e2, e3, e4⟩ := indexD_spec r (k + 1) m h
      refine ⟨j + 1, z, by omega, by simpa using e2, e3, fun i z' hi hz => ?_⟩
      cases i with
      | zero =>
        simp at hz; subst hz
        simpa using c
      | succ i => exact e4 i z' (by omega) (by simpa using hz)
def tyW (K : PySem.W.Frag) (T : String) (x : V) (H : Hp) : Prop := tyV K T x H ∨ (T = "tuple" ∧ ∃ p xs, x = .ref p ∧ Tp H p xs)
theorem tyW_is {pins : List (Addr × Obj)} {σ : L2.St} {H : Hp} {s : Shared} {T : String} {x : V} {v : Value} (I : Inv X pins σ H s) (r : RelV x v) (ty : tyW X.K T x H) :
    s.TypeIs v T ∧ ∀ a, v = .ref a → ∃ ob, s.heap.get? a = some ob ∧ ob.dict = none := by
  rcases ty with ty | ⟨rfl, p, xs, rfl, o, e, hd⟩
  · exact tyV_is I r ty
  · cases r
    obtain ⟨e1, e2⟩ := I.hok _ _ e
    obtain ⟨_, its, _, o', e3, hc, _⟩ := e2
    exact ⟨⟨o', e3, hc⟩, fun a ea => by cases ea; exact ⟨o, e1, hd⟩⟩
/-- a method of a built-in type, by the receiver's value -/
def MtD (X : Cx) (name : Str) (x : V) (H : Hp) (r : V → List V → Hp → VK → Prop) : Prop := ∃ T id, PlainAttrs T ∧ Slot T name id ∧ typeOf (.builtin id) = pure (.type "method_descriptor") ∧ MtR X id r ∧ tyW X.K T x H
theorem pe_bmD {o e : Expr} {es : List Expr} {to : TE} {t : TA} {name : Str} {apos cpos : Pos} (ho : PE X o to) (ha : PA X (e :: es) t)
    (hbase : attributeBase o name X.env (eval o X.env) = eval o X.env)
    (hfew : ((backTo cpos (starEach (e :: es) X.env)).all (fun x => !x.1) && (backToKw cpos (keywordEach [] X.env)).all (fun x => x.1.isSome)
      && decide ((e :: es).length + ([] : List Keyword).length + (if ([] : List Keyword).isEmpty then 0 else 1) < 30)) = true)
    (hline : (apos.endLine == cpos.line) = true) (hs : starEach (e :: es) X.env = (false, eval e X.env) :: starEach es X.env) (hplain : (backTo cpos (starEach es X.env)).any (·.1) = false) :
    PE X (.Call (.Attribute o name apos) (e :: es) [] cpos) (fun σ H Q => to σ H fun x H1 => ∃ r, MtD X name x H1 r ∧ t σ H1 fun xs H2 => r x xs H2 Q) := by
  refine ⟨fun pins s σ H Q I h => ?_⟩
  refine wpAny_Call_method_late hbase hfew hline rfl (thn (ho.run pins s σ H _ I h) fun v s1 ⟨x, H1, I1, r1, r, ⟨T, id, pa, slot, hty, hm, ty⟩, q1⟩ => ?_)
  obtain ⟨h1, h2⟩ := tyW_is I1 r1 ty
  refine ⟨T, id, pa, slot, hty, h1, h2, ?_⟩
  have hA := ha.run cpos pins s1 σ H1 _ I1 q1
  rw [hs] at hA ⊢
  refine Calls.callWith_builtin (by show (false || (backTo cpos (starEach es X.env)).any (·.1)) = false; rw [hplain] <;> rfl) (Calls.evalArgs_plain ?_)
  exact thn hA fun us s2 ⟨vs, H2, I2, r2, q2⟩ => hm pins s2 σ H2 x vs v us Q I2 r1 r2 q2
theorem mt_tindexS : MtR X "tuple.index" (fun x vs H Q => ∃ (a : Addr) (ys : List Str) (z : Str), x = .ref a ∧ vs = [.str z] ∧ H a = some (.tup (ys.map V.str)) ∧ z ∈ ys ∧ Q (.int (ys.idxOf z : Nat)) H) := by
  intro pins s σ H x xs v us Q I rx rxs h
  obtain ⟨a, ys, z, rfl, rfl, ht, hz, q⟩ := h
  cases rx
  obtain ⟨u, rfl, ru⟩ := rxs.one
  obtain ⟨t, rfl⟩ := ru
  obtain ⟨its, rv, pl, hlen⟩ := I.tuple (.of ht)
  exact PySem.SeqAt.tuple_index_strs pl (Vals.strs rv) hz ⟨.int (ys.idxOf z : Nat), H, I.tok _, ⟨s.toks, rfl⟩, q⟩
theorem pa_strs : ∀ {es : List Expr} {ys : List Str}, strsC es = some ys → PA X es (fun _ H Q => Q (ys.map V.str) H) ∧ es.length = ys.length
  | [], ys, h => by cases h; exact ⟨pa_nil, rfl⟩
  | .Constant (.str s) k pos :: r, ys, h => by
    simp only [strsC, Option.map_eq_some_iff] at h
    obtain ⟨zs, h, rfl⟩ := h
    obtain ⟨h1, h2⟩ := pa_strs h
    exact ⟨pa_cons pe_str h1, by simp [h2]⟩
  | .Name _ _ :: r, ys, h => by simp [strsC] at h
/-- (texts).index(x) of a written tuple -/
theorem pe_tix {es : List Expr} {ys : List Str} {k : Nat} {tp ap pos : Pos} {a : Expr} {ta : TE} (h : strsC es = some ys) (hz : es.length ≤ 1000) (ha : PE X a ta) (hs : starEach [a] X.env = (false, eval a X.env) :: starEach [] X.env)
    (hline : (ap.endLine == pos.line) = true) :
    PE X (.Call (.Attribute (.Tuple es k tp) "index" ap) [a] [] pos) (fun σ H Q => ∀ t, H t = none → ta σ (upd H t (.tup (ys.map V.str))) fun x H1 => ∃ z, [x] = [V.str z] ∧ H1 t = some (.tup (ys.map V.str)) ∧ z ∈ ys ∧ Q (.int (ys.idxOf z : Nat)) H1) := by
  refine ⟨fun pins s σ H Q I hq => ?_⟩
  obtain ⟨hp, hlen⟩ := pa_strs (X := X) h
  refine wpAny_Call_method_late rfl ?_ hline rfl (wpAny_Tuple_spliced (thn (hp.run tp pins s σ H (fun xs H1 => xs = ys.map V.str ∧ H1 = H) I ⟨rfl, rfl⟩) fun us s1 ⟨xs, H1, I1, r, e1, e2⟩ => ⟨?_, ?_⟩))
  · rw [hs]; rfl
  · subst e1
    have := r.length
    rw [List.length_map] at this
    have : (1000 : Nat) ≤ sizeLine := by decide
    omega
  · subst e1 e2
    have hf : H1 s1.heap.objs.size = none := I1.hok.fresh (Nat.le_refl _)
    have I2 : Inv X pins σ (upd H1 s1.heap.objs.size (.tup (ys.map V.str))) { s1 with heap := s1.heap.push { cls := .type "tuple", data := .seq us.toArray } } := I1.laid (t' := s1.toks) (fun b u e => Heap.get?_push_of_some _ e) (Nat.le_refl _) (by
      refine ⟨?_, us, r, ⟨_, Heap.get?_push_size _ rfl, rfl, _, rfl⟩⟩
      rw [List.length_map]
      have : (1000 : Nat) ≤ sizeLine := by decide
      omega)
    refine ⟨"tuple", "tuple.index", PySem.F.plainAttrs_tuple, PySem.F.slot_tuple_index, PySem.F.type_tuple_index, ⟨_, Heap.get?_push_size _ rfl, rfl⟩, fun a e => by cases e; exact ⟨_, Heap.get?_push_size _ rfl, rfl⟩, ?_⟩
    have hA := (pa_cons ha pa_nil hs).run pos pins _ σ _ (fun vs H2 => ∃ z, vs = [V.str z] ∧ H2 s1.heap.objs.size = some (.tup (ys.map V.str)) ∧ z ∈ ys ∧ Q (.int (ys.idxOf z : Nat)) H2) I2 (hq _ hf)
    rw [hs] at hA ⊢
    refine Calls.callWith_builtin (by rfl) (Calls.evalArgs_plain ?_)
    exact thn hA fun us s2 ⟨vs, H2, I2, r2, z, e, q1, q2, q3⟩ => mt_tindexS pins s2 σ H2 (V.ref s1.heap.objs.size) vs _ us Q I2 rfl r2 ⟨_, ys, z, rfl, e, q1, q2, q3⟩
def rM (m : Mt) (d : D) : V → List V → Hp → VK → Prop := fun x vs H Q => ∃ A y c, vs = [y] ∧ Trk A H ∧ Rp A H x d ∧ Rp A H y c ∧ Aft A H (evMt m d c) Q
def mtName : Mt → Str
  | .index => "index"
  | .count => "count"
  | .join => "join"
  | .split => "split"
theorem strsOf_some : ∀ {ds : List D} {ns : List Str}, strsOf ds = some ns → ds = ns.map PyData.str
  | [], ns, h => by cases h; rfl
  | .str i :: r, ns, h => by
    simp only [strsOf, Option.map_eq_some_iff] at h
    obtain ⟨ms, h, rfl⟩ := h
    rw [strsOf_some h]; rfl
  | .none :: _, _, h => by simp [strsOf] at h
  | .bool _ :: _, _, h => by simp [strsOf] at h
  | .int _ :: _, _, h => by simp [strsOf] at h
  | .list _ :: _, _, h => by simp [strsOf] at h
  | .tuple _ :: _, _, h => by simp [strsOf] at h
  | .dict _ :: _, _, h => by simp [strsOf] at h
theorem RpA.strs {A : Addr → Prop} {H : Hp} : ∀ {ns : List Str} {vs : List V}, RpA A H vs (ns.map PyData.str) → vs = ns.map V.str
  | [], _, .nil => rfl
  | n :: ns, _, .cons h r => by
    cases h
    rw [RpA.strs r]; rfl
theorem RpA.ofStrs {A : Addr → Prop} {H : Hp} : ∀ {ns : List Str}, RpA A H (ns.map V.str) (ns.map PyData.str)
  | [] => .nil
  | n :: ns => .cons (.str n) RpA.ofStrs
theorem m_D (hu : X.A.units + 65 < cLine) {m : Mt} {d : D} {x : V} {A : Addr → Prop} {H : Hp} (hx : Rp A H x d) (h : mOk m d = true) : MtD X (mtName m) x H (rM m d) := by
  have tyL : ∀ {p : Addr} {xs : List V}, Rd H p (.lst xs) → tyW X.K "list" (.ref p) H := fun h => .inl (.inl ⟨rfl, _, .inl h⟩)
  cases m with
  | index =>
    cases hx with
    | lst n hr z ra =>
      refine ⟨"list", _, PySem.F.plainAttrs_list, PySem.F.slot_list_index, PySem.F.type_list_index, ?_, tyL hr⟩
      intro pins s σ H x xs v us Q I rx rs h
      obtain ⟨A, y, c, rfl, tr, ha, hc, d, e, q⟩ := h
      simp only [evMt] at e
      split at e
      · rename_i g
        rw [Bool.and_eq_true] at g
        split at e
        · rename_i k e'
          cases e
          obtain ⟨j, zz, e1, e2, e3, e4⟩ := indexD_spec _ 0 k e'
          have e5 : k = (j : Int) := by omega
          subst e5
          cases ha with
          | lst n hr z ra => exact mt_indexD hu pins s σ H _ _ v us Q I rx rs ⟨_, y, c, _, j, zz, rfl, rfl, Rp.dp _ _ (noD_shaped g.1) (.lst n hr z ra), Rp.dp _ _ (noD_shaped g.2) hc, g.1, g.2, e2, e3, e4, q _ _ (Same.refl H) (.int _)⟩
        · cases e
      · cases e
    | tup n hr z ra =>
      refine ⟨"tuple", _, PySem.F.plainAttrs_tuple, PySem.F.slot_tuple_index, PySem.F.type_tuple_index, ?_, .inr ⟨rfl, _, _, rfl, hr⟩⟩
      intro pins s σ H x xs v us Q I rx rs h
      obtain ⟨A, y, c, rfl, tr, ha, hc, hq⟩ := h
      cases ha with
      | tup n hr z ra =>
      cases hc with
      | int i =>
        obtain ⟨d, e, q⟩ := hq
        simp only [evMt] at e
        split at e
        · rename_i ns e'
          split at e
          · rename_i hm
            cases e
            rw [ra.asInts e'] at hr
            cases rx
            obtain ⟨u, rfl, ru⟩ := rs.one
            obtain ⟨t, rfl⟩ := ru
            obtain ⟨its, rv, pl, hlen⟩ := I.tuple hr.sq
            exact PySem.SeqAt.tuple_index_ints pl (by simpa using RZ.intsAre_vals rv) hm ⟨.int (ns.idxOf i : Nat), H, I.tok _, ⟨s.toks, rfl⟩, q _ _ (Same.refl H) (.int _)⟩
          · cases e
        · cases e
      | _ => exact hq.st
    | _ => cases h
  | count =>
    cases hx with
    | lst n hr z ra =>
      refine ⟨"list", _, PySem.F.plainAttrs_list, PySem.F.slot_list_count, PySem.F.type_list_count, ?_, tyL hr⟩
      intro pins s σ H x xs v us Q I rx rs h
      obtain ⟨A, y, c, rfl, tr, ha, hc, hq⟩ := h
      cases ha with
      | lst n hr z ra =>
      cases hc with
      | int i =>
        obtain ⟨d, e, q⟩ := hq
        simp only [evMt] at e
        split at e
        · rename_i ns e'
          cases e
          rw [ra.asInts e'] at hr
          exact mt_lcount pins s σ H _ _ v us Q I rx rs ⟨_, ns, i, rfl, rfl, .inl hr, q _ _ (Same.refl H) (.int _)⟩
        · cases e
      | _ => exact hq.st
    | _ => cases h
  | join =>
    cases hx with
    | str a =>
      refine ⟨"str", _, PySem.F.plainAttrs_str, PySem.F.slot_str_join, PySem.F.type_str_join, ?_, .inl rfl⟩
      intro pins s σ H x xs v us Q I rx rs h
      obtain ⟨A, y, c, rfl, tr, ha, hc, hq⟩ := h
      cases ha
      cases hc with
      | lst n hr z ra =>
        obtain ⟨d, e, q⟩ := hq
        simp only [evMt] at e
        split at e
        · rename_i ys e'
          split at e
          · rename_i c
            cases e
            rw [strsOf_some e'] at ra
            rw [ra.strs] at hr
            exact mt_join pins s σ H _ _ v us Q I rx rs ⟨a, _, ys, rfl, rfl, .inl (.inl hr), c, q _ _ (Same.refl H) (.str _)⟩
          · cases e
        · cases e
      | _ => exact hq.st
    | _ => cases h
  | split =>
    cases hx with
    | str a =>
      refine ⟨"str", _, PySem.F.plainAttrs_str, PySem.F.slot_str_split, PySem.F.type_str_split, ?_, .inl rfl⟩
      intro pins s σ H x xs v us Q I rx rs h
      obtain ⟨A, y, c, rfl, tr, ha, hc, hq⟩ := h
      cases ha
      cases hc with
      | str b =>
        obtain ⟨⟨c1, c2, c3⟩, hq⟩ := hq.ite
        refine mt_split pins s σ H _ _ v us Q I rx rs ⟨a, b, rfl, rfl, c1, c2, fun t ht => hq.of _ _ (same_upd ht) (Rp.newL tr ht ?_ RpA.ofStrs)⟩
        rw [List.length_map]; exact c3
      | _ => exact hq.st
    | _ => cases h
end
end PC
set_option Elab.async false
set_option linter.all false
namespace PC
open PySem PySem.Spec PyProof.Rows L2
/-- the surroundings of a reading: the functions, the classes' places, what is wanted of an exception, the exception that a suite holds -/
structure Pm where
  Φ : Phi
  ec : Str → Addr
  W : WX
  sx : Option (Nat × Str × Addr)
  nl : Nat
  pin : Option (Nat × Addr) := none
/-- a name that may be set -/
abbrev Pm.may (p : Pm) (i : Nat) : Prop := i < p.nl ∧ ∀ a, p.pin ≠ some (i, a)
/-- a procedure of two arguments that changes the list that is the second one -/
def spP (F : List D → R D) : Sp := fun vs H Q E => vs.length = 2 ∧ ∃ v r, vs = [v, .ref r] ∧ ∃ A d l xs, Trk A H ∧ A r ∧ Rp A H v d ∧ H r = some (.lst xs) ∧ xs.length ≤ sizeLine ∧ RpA A H xs l ∧ match F [d, .list l] with
  | .ok (.list l') => ∀ H' xs', (∀ b o, b ≠ r → H b = some o → H' b = some o) → H' r = some (.lst xs') → xs'.length ≤ sizeLine → RpA A H' xs' l' → Q .non H'
  | _ => False
def spOf (ec : Str → Addr) (n : Nat) (F : List D → R D) : Sp := fun vs H Q E => vs.length = n ∧ ∃ A ds, Trk A H ∧ RpA A H vs ds ∧ match F ds with
  | .ok d => ∀ v H', Same H H' → Rp A H' v d → Q v H'
  | .ex c => ∀ H', Same H H' → E (.ref (ec c)) none H'
  | .st => False
def biNames : List Str := ["len", "abs", "min", "max", "sorted", "sum", "all", "any", "int", "tuple", "list", "str", "range", "enumerate", "set", "isinstance", "bool"]
structure Cl (K : PySem.W.Frag) (mg : Str → Option Value) (C : Addr) (c : Str) : Prop where
  gl : mg c = some (.ref C)
  kp : PySem.W.keepIn K (.ref C) = true
  mke : PySem.W.excIn K C [.type "ValueError", .type "Exception", .type "BaseException", .type "object"] "ValueError.__new__" = true
  sb : PySem.W.subIn K (.ref C) (.type "BaseException") = some true
  ty : PySem.W.typeIn K (.ref C) = some (.type "type")
structure Lk (g : G) (Φ : Phi) (ec : Str → Addr) (P : Program) (w : World) (K : PySem.W.Frag) (mg : Str → Option Value) (base : Heap) (k : Nat) : Prop where
  fn : ∀ f n, g.fns.lookup f = some n → ∃ fa fd ps, mg f = some (.ref fa) ∧ PySem.W.keepIn K (.ref fa) = true ∧ Binds K fd ps [] ∧ ps.length = n ∧ FnOk P w K mg base (L2.CX P w) k fa fd ps (spOf ec n (Φ f))
  pr : ∀ f, f ∈ g.prs → ∃ fa fd ps, mg f = some (.ref fa) ∧ PySem.W.keepIn K (.ref fa) = true ∧ Binds K fd ps [] ∧ ps.length = 2 ∧ FnOk P w K mg base (L2.CX P w) k fa fd ps (spP (Φ f))
  bi : ∀ x, x ∈ biNames → mg x = none
  ci : ∀ x i, g.cis.lookup x = some i → ∃ t, mg x = some (.int i t)
  ct : ∀ x l, g.cts.lookup x = some l → ∃ a, mg x = some (.ref a) ∧ ∀ H, Dp K H (.ref a) (.tuple l)
  cl : ∀ c, c ∈ g.ecs → Cl K mg (ec c) c
  ex : ∀ c d, c ∈ g.ecs → d ∈ g.ecs → PySem.W.exmOne K (.ref (ec c)) (.ref (ec d)) = some (subC c d)
  ix : g.isx = true → ∀ c d, c ∈ g.ecs → d ∈ g.ecs → ExcC K (ec c) ∧ PySem.W.kitOne K (.ref (ec c)) (.ref (ec d)) = some (subC c d)
/-- only classes that are known are raised -/
structure OkX (g : G) (k : Nat) (cm : Bool) (sc : Scope) (X : Cx) (p : Pm) : Prop where
  hN : X.N = g.N
  nl : p.nl = g.N.length
  nd : g.N.Nodup
  sc : X.env.scope = sc
  cal : X.calm = cm
  room : cm = true → Room k X.A
  un : X.A.units + 150 < cLine
  pn : ∀ i a, p.pin = some (i, a) → g.pin = some i
  lk : Lk g p.Φ p.ec X.prog X.w X.K X.mg X.base k
  tk : Takes X p.W
  nosx : cm = true → p.sx = none
  sx : ∀ i c a, p.sx = some (i, c, a) → c ∈ g.ecs ∧ ∃ (X0 : Cx) (oe : Obj) (pn : List (Addr × Obj)), X = X0.suite a ((a, oe) :: pn) ∧ Zc (.ref (p.ec c)) none oe ∧ ∃ vs, oe.data = .fields vs
def RR (S : List Nat) (A : Addr → Prop) (env : Env) (σ : L2.St) (H : Hp) : Prop := ∀ i ∈ S, ∀ d, rdS (geti env i) = .ok d → ∃ v, σ[i]? = some (some v) ∧ Rp A H v d
def XS (sx : Option (Nat × Str × Addr)) (env : Env) (σ : L2.St) : Prop := ∀ i c, geti env i = .x c → ∃ a, sx = some (i, c, a) ∧ σ[i]? = some (some (.ref a))
structure Pre (p : Pm) (S : List Nat) (A : Addr → Prop) (env : Env) (σ : L2.St) (H : Hp) : Prop where
  tr : Trk A H
  rr : RR S A env σ H
  xs : XS p.sx env σ
  len : σ.length = p.nl
def After {α : Type} (p : Pm) (σ : L2.St) (H : Hp) (r : R α) (k : α → Hp → Prop) : Prop := match r with
  | .ok a => ∀ H', Same H H' → k a H'
  | .ex c => ∀ H', Same H H' → p.W (.ref (p.ec c)) none σ H'
  | .st => False
section
variable {α β : Type} {p : Pm} {σ : L2.St} {H H' : Hp} {A : Addr → Prop} {S S' : List Nat} {env : Env}
theorem After.bind {r : R α} {f : α → R β} {k : β → Hp → Prop} (h : After p σ H (r.bind f) k) : After p σ H r fun a H1 => After p σ H1 (f a) k := by
  cases r with
  | ok a =>
    intro H1 s1
    have h : After p σ H (f a) k := h
    show After p σ H1 (f a) k
    cases e : f a with
    | ok b => rw [e] at h; exact fun H2 s2 => h H2 (s1.trans s2)
    | ex c => rw [e] at h; exact fun H2 s2 => h H2 (s1.trans s2)
    | st => rw [e] at h; exact h.elim
  | ex c => exact h
  | st => exact h
theorem After.mono {r : R α} {k k' : α → Hp → Prop} (h : After p σ H r k) (m : ∀ a H', Same H H' → k a H' → k' a H') : After p σ H r k' := by
  cases r with
  | ok a => exact fun H' s => m a H' s (h H' s)
  | ex c => exact h
  | st => exact h
theorem After.here {a : α} {k : α → Hp → Prop} (h : After p σ H (.ok a) k) : k a H := h H (Same.refl H)
theorem After.from {r : R α} {k : α → Hp → Prop} (s : Same H H') (h : After p σ H r k) : After p σ H' r k := by
  cases r with
  | ok a => exact fun H2 s2 => h H2 (s.trans s2)
  | ex c => exact fun H2 s2 => h H2 (s.trans s2)
  | st => exact h
theorem RR.same (s : Same H H') (h : RR S A env σ H) : RR S A env σ H' := fun i hi d e => by
  obtain ⟨v, e1, e2⟩ := h i hi d e
  exact ⟨v, e1, Rp.same s d v e2⟩
theorem RR.sub (s : ∀ i ∈ S', i ∈ S) (h : RR S A env σ H) : RR S' A env σ H := fun i hi => h i (s i hi)
theorem Pre.same (s : Same H H') (h : Pre p S A env σ H) : Pre p S A env σ H' := ⟨h.tr.same s, h.rr.same s, h.xs, h.len⟩
theorem Pre.sub (h : Pre p S A env σ H) (s : ∀ i ∈ S', i ∈ S) : Pre p S' A env σ H := ⟨h.tr, h.rr.sub s, h.xs, h.len⟩
theorem Pre.left {S1 S2 : List Nat} (h : Pre p (S1 ++ S2) A env σ H) : Pre p S1 A env σ H := h.sub fun _ q => List.mem_append_left _ q
theorem Pre.right {S1 S2 : List Nat} (h : Pre p (S1 ++ S2) A env σ H) : Pre p S2 A env σ H := h.sub fun _ q => List.mem_append_right _ q
end
def kD (A : Addr → Prop) (Q : VK) : D → Hp → Prop := fun d H' => ∀ v, Rp A H' v d → Q v H'
def tE (p : Pm) (e : E) : TE := fun σ H Q => ∃ A env, Pre p e.vars A env σ H ∧ After p σ H (evE p.Φ e env) (kD A Q)
def tT (p : Pm) (e : E) : TT := fun σ H Q => ∃ A env, Pre p e.vars A env σ H ∧ After p σ H (toB (evE p.Φ e env)) Q
def tEs (p : Pm) (e : Es) : TA := fun σ H Q => ∃ A env, Pre p e.vars A env σ H ∧ After p σ H (evs p.Φ e env) (fun ds H' => ∀ vs, RpA A H' vs ds → Q vs H')
def tO (p : Pm) (e : Oe) : TO := fun σ H Q => ∃ A env, Pre p e.vars A env σ H ∧ After p σ H (evO p.Φ e env) Q
def tF (p : Pm) (e : Oe) : TT := fun σ H Q => ∃ A env, Pre p e.vars A env σ H ∧ After p σ H (evT p.Φ e env) Q
def tCh (p : Pm) (e : Cs) (x : V) : TE := fun σ H Q => ∃ A env d, Pre p e.vars A env σ H ∧ Rp A H x d ∧ After p σ H (evC p.Φ e d env) (kD A Q)
def tChT (p : Pm) (e : Cs) (x : V) : TT := fun σ H Q => ∃ A env d, Pre p e.vars A env σ H ∧ Rp A H x d ∧ After p σ H (toB (evC p.Φ e d env)) Q
theorem After.toB {p : Pm} {σ : L2.St} {H : Hp} {r : R D} {Q : Bool → Hp → Prop} (h : After p σ H (PC.toB r) Q) : After p σ H r fun d H' => ∃ b, d = .bool b ∧ Q b H' := by
  cases r with
  | ok d => cases d with
    | bool b => exact fun H' s => ⟨b, rfl, h H' s⟩
    | _ => exact False.elim h
  | ex c => exact h
  | st => exact h
def Keep (A : Addr → Prop) (H H' : Hp) : Prop := ∀ a o, H a = some o → ¬ A a → H' a = some o
theorem Keep.of {A : Addr → Prop} {H H' : Hp} (s : Same H H') : Keep A H H' := fun a o e _ => s a o e
theorem Rd.keep {A : Addr → Prop} {H H' : Hp} {a : Addr} {u : HO} (s : Keep A H H') (n : ¬ A a) (h : Rd H a u) : Rd H' a u := by
  rcases h with h | ⟨o, h⟩
  · exact .inl (s _ _ h n)
  · exact .inr ⟨o, s _ _ h n⟩
theorem Tp.keep {A : Addr → Prop} {H H' : Hp} {a : Addr} {xs : List V} (s : Keep A H H') (n : ¬ A a) (h : Tp H a xs) : Tp H' a xs := let ⟨o, e, d⟩ := h; ⟨o, s _ _ e n, d⟩
theorem Rd.some {H : Hp} {a : Addr} {u : HO} (h : Rd H a u) : H a ≠ none := by
  rcases h with h | ⟨o, h⟩ <;> rw [h] <;> simp
section
variable {A B : Addr → Prop} {H H' : Hp}
mutual
theorem Rp.keep (s : Keep A H H') (hb : ∀ a, B a → A a ∨ H a = none) : ∀ (d : D) (v : V), Rp A H v d → Rp B H' v d
  | .none, _, .non => .non
  | .bool _, _, .bl b => .bl b
  | .int _, _, .int i => .int i
  | .str _, _, .str x => .str x
  | .list ds, _, .lst n h z r => .lst (fun q => (hb _ q).elim n fun e => absurd e (Rd.some h)) (Rd.keep s n h) z (RpA.keep s hb ds _ r)
  | .tuple ds, _, .tup n h z r => .tup (fun q => (hb _ q).elim n fun e => absurd e h.ne0) (h.keep s n) z (RpA.keep s hb ds _ r)
  | .dict kvs, _, .dct n h r => .dct (fun q => (hb _ q).elim n fun e => absurd e (Rd.some h)) (Rd.keep s n h) (RpK.keep s hb kvs _ r)
  | .dict kvs, _, .dtt n h z r => .dtt (fun q => (hb _ q).elim n fun e => by rw [h] at e; cases e) (s _ _ h n) z (RpT.keep s hb kvs _ r)
theorem RpA.keep (s : Keep A H H') (hb : ∀ a, B a → A a ∨ H a = none) : ∀ (ds : List D) (vs : List V), RpA A H vs ds → RpA B H' vs ds
  | [], _, .nil => .nil
  | d :: ds, _, .cons h r => .cons (Rp.keep s hb d _ h) (RpA.keep s hb ds _ r)
theorem RpK.keep (s : Keep A H H') (hb : ∀ a, B a → A a ∨ H a = none) : ∀ (kvs : List (D × D)) (ks : List (Key × V)), RpK A H ks kvs → RpK B H' ks kvs
  | [], _, .nil => .nil
  | (_, d) :: kvs, _, .cons h r => .cons (Rp.keep s hb d _ h) (RpK.keep s hb kvs _ r)
theorem RpT.keep (s : Keep A H H') (hb : ∀ a, B a → A a ∨ H a = none) : ∀ (kvs : List (D × D)) (ks : List TK), RpT A H ks kvs → RpT B H' ks kvs
  | [], _, .nil => .nil
  | (_, d) :: kvs, _, .cons n t h r => .cons (fun q => (hb _ q).elim n fun e => absurd e t.ne0) (t.keep s n) (Rp.keep s hb d _ h) (RpT.keep s hb kvs _ r)
end
end
structure Runs (A : Addr → Prop) (J : It) (ds : List D) (H1 : Hp) : Prop where
  go : ∀ i Hc, Keep A H1 Hc → i < ds.length → J.go i Hc
  stop : ∀ i Hc, Keep A H1 Hc → ds.length ≤ i → J.stop i Hc
  yld : ∀ i Hc x H' B, i < ds.length → Keep A H1 Hc → Trk B Hc → (∀ a, B a → A a ∨ H1 a = none) → J.yld i Hc x H' → ∃ d, ds[i]? = some d ∧ Same Hc H' ∧ Rp B H' x d
def AI (it : I) (A : Addr → Prop) : Addr → Prop := match it with
  | .e _ => A
  | .en _ => A
  | _ => fun _ => True
theorem aI {it : I} {A : Addr → Prop} {a : Addr} (h : A a) : AI it A a := by cases it <;> first | exact h | exact trivial
def tI (p : Pm) (it : I) : TI := fun σ H R => ∃ A env, Pre p it.vars A env σ H ∧ After p σ H (evI p.Φ it env) (fun ds H1 => ∀ J, Runs (AI it A) J ds H1 → ds.length ≤ sizeLine → R J H1)
section
variable {X : Cx} {tg : Expr}
def iSeq (K : PySem.W.Frag) (tl : TE) : TI := fun σ H R => tl σ H fun x H1 => ∃ a xs, x = .ref a ∧ ((Rd H1 a (.lst xs) ∧ R (Itl K a) H1) ∨ (Rd H1 a (.tup xs) ∧ R (Itt K a) H1))
theorem pi_seq {l : Expr} {tl : TE} (hl : PE X l tl) : PI X tg l (iSeq X.K tl) := by
  refine ⟨fun pins s σ H R I h => ?_⟩
  refine thn (hl.run pins s σ H _ I h) fun v s1 ⟨x, H1, I1, r1, q1⟩ => ?_
  obtain ⟨a, xs, e, q⟩ := q1
  subst e
  cases r1
  rcases q with ⟨hq, q⟩ | ⟨hq, q⟩
  · obtain ⟨its, rv, p, hz⟩ := I1.list (.inl hq)
    refine wpAny_pyIter_list p.isList ?_
    refine ⟨s1.heap.objs.size, [s1.heap.objs.size], _, _, H1, rfl, I1.kept (t' := s1.toks) fun b o e => Heap.get?_push_of_some _ e, turn_list a _, ⟨_, Heap.get?_push_size _ rfl, rfl, rfl⟩, fun b hb => ?_, q⟩
    have e : b = s1.heap.objs.size := by simpa using hb
    subst e
    exact I1.fpOk (Nat.le_refl _) (I1.hok.fresh (Nat.le_refl _))
  · obtain ⟨its, rv, p, hz⟩ := I1.tuple (.inl hq)
    refine wpAny_pyIter_tuple (show s1.heap.IsTuple a its.toArray from p) ?_
    refine ⟨s1.heap.objs.size, [s1.heap.objs.size], _, _, H1, rfl, I1.kept (t' := s1.toks) fun b o e => Heap.get?_push_of_some _ e, turn_tuple a _, ⟨_, Heap.get?_push_size _ rfl, rfl, rfl⟩, fun b hb => ?_, q⟩
    have e : b = s1.heap.objs.size := by simpa using hb
    subst e
    exact I1.fpOk (Nat.le_refl _) (I1.hok.fresh (Nat.le_refl _))
theorem Runs.list {K : PySem.W.Frag} {A : Addr → Prop} {a : Addr} {xs : List V} {ds : List D} {H1 : Hp} (n : ¬ A a) (h : Rd H1 a (.lst xs)) (r : RpA A H1 xs ds) : Runs A (Itl K a) ds H1 where
  go := fun i Hc s hi => by
    have hl := r.length
    exact ⟨xs, xs[i]'(by omega), .inl (Rd.keep s n h), by simp⟩
  stop := fun i Hc s hi => ⟨xs, .inl (Rd.keep s n h), by have hl := r.length; omega⟩
  yld := fun i Hc x H' B hi s tb hb ⟨e, f⟩ => by
    subst e
    have e1 := f xs (.inl (Rd.keep s n h))
    obtain ⟨d, e2, e3⟩ := r.getV e1
    exact ⟨d, e2, Same.refl _, Rp.keep s hb d x e3⟩
theorem Runs.tup {K : PySem.W.Frag} {A : Addr → Prop} {a : Addr} {xs : List V} {ds : List D} {H1 : Hp} (n : ¬ A a) (h : Tp H1 a xs) (r : RpA A H1 xs ds) : Runs A (Itt K a) ds H1 where
  go := fun i Hc s hi => by
    have hl := r.length
    exact ⟨xs, xs[i]'(by omega), (h.keep s n).sq, by simp⟩
  stop := fun i Hc s hi => ⟨xs, (h.keep s n).sq, by have hl := r.length; omega⟩
  yld := fun i Hc x H' B hi s tb hb ⟨e, f⟩ => by
    subst e
    have e1 := f xs (h.keep s n).sq
    obtain ⟨d, e2, e3⟩ := r.getV e1
    exact ⟨d, e2, Same.refl _, Rp.keep s hb d x e3⟩
theorem iota_get : ∀ (n : Nat) (lo : Int) (i : Nat), i < n → (iota lo n)[i]? = some (lo + i)
  | 0, _, _, h => by omega
  | n + 1, lo, 0, _ => by simp [iota]
  | n + 1, lo, i + 1, h => by
    simp only [iota, List.getElem?_cons_succ]
    rw [iota_get n (lo + 1) i (by omega)]
    congr 1
    omega
theorem iota_length : ∀ (n : Nat) (lo : Int), (iota lo n).length = n
  | 0, _ => rfl
  | n + 1, lo => by simp [iota, iota_length n]
theorem Runs.rng {A : Addr → Prop} {a b : Int} {H1 : Hp} : Runs A (Itr a (b - a).toNat) (rgD a b) H1 where
  go := fun i Hc s hi => by
    have e : (rgD a b).length = (b - a).toNat := by simp [rgD, iota_length]
    rw [e] at hi
    exact hi
  stop := fun i Hc s hi => by
    have e : (rgD a b).length = (b - a).toNat := by simp [rgD, iota_length]
    rw [e] at hi
    exact hi
  yld := fun i Hc x H' B hi s tb hb ⟨e1, e2⟩ => by
    subst e1 e2
    have e : (rgD a b).length = (b - a).toNat := by simp [rgD, iota_length]
    rw [e] at hi
    refine ⟨.int (a + i), ?_, Same.refl _, .int _⟩
    unfold rgD
    rw [List.getElem?_map, iota_get _ _ _ hi]
    rfl
theorem Runs.rng3 {A : Addr → Prop} {a b : Int} {H1 : Hp} : Runs A (Itc a (-1) (a - b).toNat) ((iota 0 (a - b).toNat).map fun m => .int (a - m)) H1 where
  go := fun i Hc s hi => by
    have e : ((iota 0 (a - b).toNat).map fun m => PyData.int (a - m)).length = (a - b).toNat := by simp [iota_length]
    rw [e] at hi
    exact hi
  stop := fun i Hc s hi => by
    have e : ((iota 0 (a - b).toNat).map fun m => PyData.int (a - m)).length = (a - b).toNat := by simp [iota_length]
    rw [e] at hi
    exact hi
  yld := fun i Hc x H' B hi s tb hb ⟨e1, e2⟩ => by
    subst e1 e2
    have e : ((iota 0 (a - b).toNat).map fun m => PyData.int (a - m)).length = (a - b).toNat := by simp [iota_length]
    rw [e] at hi
    refine ⟨.int (a + (i : Nat) * (-1)), ?_, Same.refl _, .int _⟩
    rw [List.getElem?_map, iota_get _ _ _ hi]
    have e2 : a - (0 + (i : Int)) = a + (i : Nat) * (-1) := by omega
    show some (PyData.int (a - (0 + i))) = _
    rw [e2]
section
open PySem.W L2
variable {X : Cx}
def IteN (KF : PySem.W.Frag) (a : Addr) : It :=
  ⟨fun i H => ∃ (xs : List V) (x : V), SqL KF H a xs ∧ xs[i]? = some x, fun i H v H' => ∃ T x, v = .ref T ∧ H T = none ∧ (∃ ob : Obj, ob.dict = none ∧ H' = upd H T (.frz ob (.tup [.int (i : Nat), x]))) ∧ ∀ xs, SqL KF H a xs → xs[i]? = some x, fun i H => ∃ xs : List V, SqL KF H a xs ∧ xs.length ≤ i⟩
theorem turn_enumN {PP : Program} {ww : World} {KF : PySem.W.Frag} {el9 : List Expr} {k9 : Nat} {tp9 : Pos} (a e it : Addr) :
    Turn PP ww KF (.Tuple el9 k9 tp9) (IteN KF a) [e, it] e (fun i h => (∃ old, IsEnum h e it ((i : Nat) : Int) old) ∧ h.IsListIter it a i ∧ e ≠ it) where
  mem := by simp
  obj := fun i h sv b gb => by
    obtain ⟨⟨old, ge⟩, ⟨o, go, gc, gd⟩, _⟩ := sv
    have e' : b = e ∨ b = it := by simpa using gb
    rcases e' with z | z
    · rw [z]; exact ⟨_, ge, fun v q => nomatch q⟩
    · rw [z]; exact ⟨o, go, fun v q => by rw [gd] at q; cases q⟩
  keep := fun i h h' sv k => let ⟨⟨old, ge⟩, hi, gne⟩ := sv; ⟨⟨old, k e (by simp) _ ge⟩, hi.at fun o q => k it (by simp) o q, gne⟩
  item := by
    intro X hP hw hK gc i pn9 s σ H E J gf sv gg
    subst hP hw hK
    obtain ⟨⟨old, ge⟩, git, gne⟩ := sv
    obtain ⟨xs, x, gq, gx⟩ := gg
    obtain ⟨jt, rw1, p, hz⟩ := J.list gq
    obtain ⟨u, hu, ru⟩ := rw1.get gx
    have gel : e < s.heap.objs.size := Heap.lt_size ge
    have gil : it < s.heap.objs.size := by obtain ⟨_, q, _⟩ := git; exact Heap.lt_size q
    refine wpAny_pyNext_enum_item ge git p.isList (x := u) (by simpa using hu) gne fun h' go git' hT gsz gk => ?_
    refine ⟨_, rfl, wpAny_letOwnedTupleGo_enum (s := { s with heap := h', toks := s.toks + 1 }) go fun h'' ge' sb => ?_⟩
    have gT2 : h''.get? s.heap.objs.size = some { cls := .type "tuple", data := .seq #[.int i s.toks, u] } := (sb.2 _ (Nat.ne_of_gt gel)).trans hT
    have new : ObjOk X.prog X.w (upd H s.heap.objs.size (.frz { cls := .type "tuple", data := .seq #[.int i s.toks, u] } (.tup [.int (i : Nat), x]))) h'' s.heap.objs.size (.frz { cls := .type "tuple", data := .seq #[.int i s.toks, u] } (.tup [.int (i : Nat), x])) :=
      ⟨gT2, by show 2 ≤ sizeLine; decide, [.int i s.toks, u], .cons ⟨_, rfl⟩ (.cons ru .nil), ⟨_, gT2, rfl, _, rfl⟩⟩
    have J1 : Inv X pn9 σ (upd H s.heap.objs.size (.frz { cls := .type "tuple", data := .seq #[.int i s.toks, u] } (.tup [.int (i : Nat), x]))) { s with heap := h'', toks := s.toks + 1 } :=
      J.turnedNew (ch := [e, it]) (fun b ob gb q => (sb.2 b (fun z => gb (by simp [z]))).trans (gk b ob (fun z => gb (by simp [z])) (fun z => gb (by simp [z])) q)) gf (Nat.le_refl _) new
    refine ⟨.ref s.heap.objs.size, _, J1, rfl, ⟨_, x, rfl, J.hok.fresh (Nat.le_refl _), ⟨_, rfl, rfl⟩, fun zs gy => by rw [J.list_inj gy gq]; exact gx⟩, ⟨⟨u, ?_⟩, git'.at fun o q => (sb.2 it (Ne.symm gne)).trans q, gne⟩, fun b gb => ?_⟩
    · have e9 : ((i + 1 : Nat) : Int) = (i : Int) + 1 := by omega
      rw [e9]; exact ge'
    · have gb' : b < s.heap.objs.size := by
        have e' : b = e ∨ b = it := by simpa using gb
        rcases e' with z | z
        · rw [z]; exact gel
        · rw [z]; exact gil
      rw [upd_ne (Nat.ne_of_lt gb')]
      exact (gf b gb).1
  done := by
    intro X hP hw hK gc i pn9 s σ H E J gf sv gg
    subst hP hw hK
    obtain ⟨⟨old, ge⟩, git, gne⟩ := sv
    obtain ⟨xs, gq, gx⟩ := gg
    obtain ⟨jt, rw1, p, hz⟩ := J.list gq
    obtain ⟨f0, f1, f2, f3, f4, f5⟩ := gf it (by simp)
    have hl := rw1.length
    exact wpAny_pyNext_enum_end (J.ok.hd gc) ge git p.isList (by simp; omega) fun h' eb => ⟨rfl, J.turned (t' := s.toks) (fun b o gb q => eb b o gb q) f0 f1 f3 f4 f5⟩
  self := fun A i s Q E sv h => let ⟨⟨_, ge⟩, _⟩ := sv; wpAny_pyIter_enum ge h
def iEnumN (KF : PySem.W.Frag) (ta : TA) : TI := fun σ H R => ta σ H fun vs H1 => ∃ a xs, vs = [.ref a] ∧ SqL KF H1 a xs ∧ R (IteN KF a) H1
theorem pi_enumN {X : Cx} {e : Expr} {ta : TA} {p pos tp9 : Pos} {el9 : List Expr} {k9 : Nat} (gg : Gl X "enumerate") (gm : X.mg "enumerate" = none) (ga : PA X [e] ta) (gs : starEach [e] X.env = [(false, eval e X.env)] := by rfl) :
    PI X (.Tuple el9 k9 tp9) (.Call (.Name "enumerate" p) [e] [] pos) (iEnumN X.K ta) := by
  refine ⟨fun pn9 s σ H R J h => ?_⟩
  refine Call_ (ld_blt J gg gm boot_enumerate (PyProof.Rows.callWith_type1 (thn (ga.run pos pn9 s σ H _ J h) fun us s1 ⟨vs, H1, J1, r1, q1⟩ => ?_) gs rfl))
  obtain ⟨a, xs, ex, gq, q⟩ := q1
  subst ex
  cases r1 with
  | cons r rr =>
    cases rr
    cases r
    obtain ⟨jt, rw1, p9, hz⟩ := J1.list gq
    refine call_enumerate_list p9.isList fun h' ge git gsz gk => wpAny_pyIter_enum ge ?_
    have J2 : Inv X pn9 σ H1 { s1 with heap := h' } := J1.kept (t' := s1.toks) gk
    refine ⟨s1.heap.objs.size + 1, [s1.heap.objs.size + 1, s1.heap.objs.size], _, _, H1, rfl, J2, turn_enumN a (s1.heap.objs.size + 1) s1.heap.objs.size, ⟨⟨.none, ge⟩, git, Nat.succ_ne_self _⟩, fun b gb => ?_, q⟩
    have e' : b = s1.heap.objs.size + 1 ∨ b = s1.heap.objs.size := by simpa using gb
    have gle : s1.heap.objs.size ≤ b := by
      rcases e' with z | z
      · rw [z]; omega
      · rw [z]; exact Nat.le_refl _
    exact J1.fpOk gle (J1.hok.fresh gle)
end
theorem enumD_get : ∀ (l : List D) (k : Int) (i : Nat) (d : D), l[i]? = some d → (enumD k l)[i]? = some (.tuple [.int (k + i), d])
  | [], _, _, _, h => by simp at h
  | x :: l, k, 0, d, h => by
    simp at h; subst h
    simp [enumD]
  | x :: l, k, i + 1, d, h => by
    simp only [enumD, List.getElem?_cons_succ]
    rw [enumD_get l (k + 1) i d (by simpa using h)]
    have e : k + 1 + (i : Int) = k + ((i + 1 : Nat) : Int) := by omega
    rw [e]
theorem enumD_length : ∀ (l : List D) (k : Int), (enumD k l).length = l.length
  | [], _ => rfl
  | x :: l, k => by simp [enumD, enumD_length l]
theorem Runs.en {K : PySem.W.Frag} {A : Addr → Prop} {a : Addr} {xs : List V} {ds : List D} {H1 : Hp} (n : ¬ A a) (h : Rd H1 a (.lst xs)) (r : RpA A H1 xs ds) : Runs A (IteN K a) (enumD 0 ds) H1 where
  go := fun i Hc s hi => by
    have hl := r.length
    rw [enumD_length] at hi
    exact ⟨xs, xs[i]'(by omega), .inl (Rd.keep s n h), by simp⟩
  stop := fun i Hc s hi => ⟨xs, .inl (Rd.keep s n h), by have hl := r.length; rw [enumD_length] at hi; omega⟩
  yld := fun i Hc x H' B hi s tb hb ⟨T, y, e, hT, ⟨ob, od, eH⟩, f⟩ => by
    subst e eH
    have e1 := f xs (.inl (Rd.keep s n h))
    obtain ⟨d, e2, e3⟩ := r.getV e1
    refine ⟨_, enumD_get ds 0 i d e2, same_upd hT, ?_⟩
    rw [Int.zero_add]
    exact Rp.newT tb hT od (by show 2 ≤ sizeLine; decide) (.cons (.int _) (.cons (Rp.keep s hb d y e3) .nil))
end
end PC
set_option Elab.async false
set_option linter.all false
namespace PC
open PySem PySem.Spec PyProof.Rows L2
theorem dataLe_tups (x : β → List Int) : W.dataLe false (fun b => PyData.tuple ((x b).map .int)) = fun p q => decide (x p ≤ x q) := by
  funext p q
  rw [W.dataLe_eq]
  show (!W.dataLt (.tuple ((x q).map .int)) (.tuple ((x p).map .int))) = _
  rw [W.dataLt_tuple]
  show (!W.rowLt ((x q).map .int) ((x p).map .int)) = _
  rw [W.dataLt_ints]
  by_cases h : x q < x p
  · have h' : ¬ x p ≤ x q := fun r => List.not_lt.mpr r h
    simp [h, h']
  · have h' : x p ≤ x q := List.not_lt.mp h
    simp [h, h']
/-- an order of the images is that of an order of the things -/
theorem perm_lift {α β : Type} (f : α → β) {vs : List β} {L : List α} (h : vs.Perm (L.map f)) : ∃ L1 : List α, L1.Perm L ∧ vs = L1.map f := by
  have key : ∀ {a b : List β}, a.Perm b → ∀ L : List α, b = L.map f → ∃ L1 : List α, L1.Perm L ∧ a = L1.map f := by
    intro a b h
    induction h with
    | nil => exact fun L e => ⟨L, .refl _, e⟩
    | cons x _ ih =>
      intro L e
      cases L with
      | nil => cases e
      | cons y L =>
        injection e with e1 e2
        obtain ⟨L1, p, e3⟩ := ih L e2
        exact ⟨y :: L1, p.cons y, by rw [List.map_cons, e1, e3]⟩
    | swap x y l =>
      intro L e
      match L, e with
      | u :: v :: L, e =>
        injection e with e1 e2
        injection e2 with e2 e3
        exact ⟨v :: u :: L, .swap _ _ _, by rw [List.map_cons, List.map_cons, e1, e2, e3]⟩
    | trans _ _ h1 h2 =>
      intro L e
      obtain ⟨L1, p1, e1⟩ := h2 L e
      obtain ⟨L2, p2, e2⟩ := h1 L1 e1
      exact ⟨L2, p2.trans p1, e2⟩
  exact key h L rfl
section
variable {P : Program} {w : World} {A : Around} {E : Value → Shared → Prop} {s : Shared}
theorem sorted_setU {a : Addr} {L : List (Addr × List Int)} {es : Array (Int × Value)} {ep : Nat} {t : SetTable} {Q : Value → Shared → Prop} (R : SetTR P w s.heap a L es ep t) (hh : A.handled = none) (hu : A.units + 20 < cLine)
    (er : ∀ p ∈ L, ∃ as, Reads s.heap (.ref p.1) (.tuple (p.2.map .int)) as) (hne : ∀ p ∈ L, p.2 ≠ [])
    (hQ : ∀ s' p (out : Array Value) (c : Nat) (L' : List (Addr × List Int)), (∀ b o, s.heap.get? b = some o → s'.heap.get? b = some o) → s'.gens = s.gens → s'.os = s.os → s.heap.objs.size ≤ p →
      s'.heap.get? p = some (seqObj "list" out c) → out.toList = L'.map (fun q => Value.ref q.1) → L'.Perm L → L'.Pairwise (fun q r => q.2 ≤ r.2) → Q (.ref p) s') :
    wpAny (model P w) A (call (.builtin "sorted") [.ref a]) Q E s := by
  obtain ⟨o, ho, hex, hd⟩ := R.ob
  have hsz := R.size
  have hfew := R.few
  refine Calls.call_function_entry kind_sorted plain_sorted entry_sorted (args_sorted1 _) ?_
  unfold Builtin.«sorted»
  refine wpAny_bind (m := checkCount "sorted" 1 1 _) (wpAny_pure ?_)
  refine wpAny_bind (collect_set (A := A.in1) hh ⟨o, ho, hex.1, hd⟩ R.fits (by unfold scanBound; omega) R.tab.ris R.led fun s1 vs k1 hz g1 o1 pm => ?_)
  have hes : es.toList.map (·.2) = L.map fun q => Value.ref q.1 := by
    rw [R.rows]
    unfold rowsOf
    rw [List.map_map] <;> rfl
  rw [hes] at pm
  obtain ⟨L1, pL1, e1⟩ := perm_lift _ pm
  have hs1 : ∀ q ∈ L1, q ∈ L := fun q m => pL1.mem_iff.mp m
  have hvl : vs.length < 64 := by rw [pm.length_eq, List.length_map]; exact hfew
  refine wpAny_bind (wpAny_newList ?_ (by rw [sizeLine_eq]; omega))
  have hoL : (s1.heap.push (seqObj "list" vs.toArray 0)).get? s1.heap.objs.size = some (seqObj "list" vs.toArray 0) := Heap.get?_push_size _ rfl
  have hk1 : ∀ b u, s.heap.get? b = some u → (W.sortingHeap (s1.heap.push (seqObj "list" vs.toArray 0)) s1.heap.objs.size vs).get? b = some u := fun b u e => by
    have q := k1 b u e
    exact W.sortingHeap_old (Nat.ne_of_lt (Heap.lt_size q)) (Heap.get?_push_of_some _ q)
  have ea : ∀ (L1 : List (Addr × List Int)), (∀ q ∈ L1, q ∈ L) → W.EachIs (fun v (q : Addr × List Int) => v = Value.ref q.1) (L1.map fun q => Value.ref q.1) L1 := by
    intro L1 h
    induction L1 with
    | nil => exact .nil
    | cons q r ih => exact .cons rfl (ih fun x hx => h x (List.mem_cons_of_mem _ hx))
  have eb : ∀ (L1 : List (Addr × List Int)), (∀ q ∈ L1, q ∈ L) → W.EachIs (fun v (q : Addr × List Int) => ∃ as, Reads (W.sortingHeap (s1.heap.push (seqObj "list" vs.toArray 0)) s1.heap.objs.size vs) v (.tuple (q.2.map .int)) as) (L1.map fun q => Value.ref q.1) L1 := by
    intro L1 h
    induction L1 with
    | nil => exact .nil
    | cons q r ih =>
      obtain ⟨as, ra⟩ := er q (h q List.mem_cons_self)
      exact .cons ⟨as, PyProof.Rows.Reads.keeps hk1 ra⟩ (ih fun x hx => h x (List.mem_cons_of_mem _ hx))
  have e := ea L1 hs1
  have er' := eb L1 hs1
  rw [← e1] at e er'
  have hal : W.AllAlike (L1.map fun q => PyData.tuple (q.2.map .int)) := W.AllAlike.of fun b b' => by
    show W.alikeAll _ _ = true
    exact W.alike_ints _ _
  have hk : W.Sortable (L1.map fun q => PyData.tuple (q.2.map .int)) := .inl fun d hd => by
    obtain ⟨q, hq, rfl⟩ := List.mem_map.mp hd
    have hn := hne q (hs1 q hq)
    cases h2 : q.2 with
    | nil => exact absurd h2 hn
    | cons x r => exact ⟨.int x, r.map .int, by rw [List.map_cons]⟩
  have hdep : ∀ b, b ∈ L1 → A.in1.in1.units + (PyData.tuple (b.2.map .int)).depth < cLine := fun b _ => by
    have : (PyData.tuple (b.2.map .int)).depth ≤ 1 := by
      show PyData.depthAll _ + 1 ≤ 1
      rw [W.depth_ints]
      exact Nat.le_refl _
    have h2 : A.in1.in1.units ≤ A.units + 2 := Nat.le_refl _
    omega
  refine wpAny_bind (wpAny_holding (wpAny_call_entry slot_list_sort ⟨_, hoL, rfl⟩ entry_list_sort
    (W.list_sort_vals (κ := W.dataKind (W.sortingHeap (s1.heap.push (seqObj "list" vs.toArray 0)) s1.heap.objs.size vs) (L1.map fun q => PyData.tuple (q.2.map .int))) (s := { s1 with heap := s1.heap.push (seqObj "list" vs.toArray 0) }) hoL
      (W.SortsAt.data (s := { s1 with heap := W.sortingHeap (s1.heap.push (seqObj "list" vs.toArray 0)) s1.heap.objs.size vs }) (W.each_map (R := fun v d => ∃ as, Reads (W.sortingHeap (s1.heap.push (seqObj "list" vs.toArray 0)) s1.heap.objs.size vs) v d as) _ er') hal hk (W.bound_map hdep)) (by rw [sizeLine_eq]; omega) ⟨.none, rfl, ?_⟩) (args_list_sort _)))
  have sd := W.sortVals_data (R := fun v (q : Addr × List Int) => v = Value.ref q.1) false e er' hal
  generalize W.sortVals (W.dataKind (W.sortingHeap (s1.heap.push (seqObj "list" vs.toArray 0)) s1.heap.objs.size vs) (L1.map fun q => PyData.tuple (q.2.map .int))) false vs vs = out at sd ⊢
  rw [dataLe_tups (fun q : Addr × List Int => q.2)] at sd
  have eo : ∀ {vs : List Value} {l : List (Addr × List Int)}, W.EachIs (fun v (q : Addr × List Int) => v = Value.ref q.1) vs l → vs = l.map fun q => Value.ref q.1 := by
    intro vs l h
    induction h with
    | nil => rfl
    | cons h1 _ ih => rw [List.map_cons, h1, ih]
  have eo := eo sd
  obtain ⟨c, hc⟩ := sortedHeap_at (vs := vs) (out := out.toArray) hoL
  refine wpAny_pure ⟨_, rfl, hQ { s1 with heap := sortedHeap (s1.heap.push (seqObj "list" vs.toArray 0)) s1.heap.objs.size vs out.toArray } s1.heap.objs.size out.toArray c (L1.mergeSort fun p q => decide (p.2 ≤ q.2)) (fun b u e => ?_) g1 o1 hz hc eo ((List.mergeSort_perm _ _).trans pL1) ?_⟩
  · have q := k1 b u e
    have hlt := Heap.lt_size q
    show (sortedHeap (s1.heap.push (seqObj "list" vs.toArray 0)) s1.heap.objs.size vs out.toArray).get? b = some u
    rw [sortedHeap_old (Nat.ne_of_lt hlt) (by rw [size_push']; exact Nat.lt_succ_of_lt hlt)]
    exact Heap.get?_push_of_some _ q
  · have := List.pairwise_mergeSort (le := fun p q : Addr × List Int => decide (p.2 ≤ q.2)) (fun a b c h1 h2 => by
      simp only [decide_eq_true_eq] at *
      exact List.le_trans h1 h2) (fun a b => by
      simp only [Bool.or_eq_true, decide_eq_true_eq]
      exact List.le_total _ _) L1
    exact this.imp fun h => by simpa using h
end
theorem insU_mem {x y : List Int} : ∀ {l : List (List Int)}, y ∈ insU x l ↔ y = x ∨ y ∈ l
  | [] => by simp [insU]
  | z :: r => by
    unfold insU
    split
    · simp
    · split
      · rename_i h
        subst h
        simp
      · rw [List.mem_cons, insU_mem, List.mem_cons]
        constructor
        · rintro (h | h | h)
          · exact .inr (.inl h)
          · exact .inl h
          · exact .inr (.inr h)
        · rintro (h | h | h)
          · exact .inr (.inl h)
          · exact .inl h
          · exact .inr (.inr h)
theorem usort_mem {y : List Int} : ∀ {l : List (List Int)}, y ∈ usort l ↔ y ∈ l
  | [] => by simp [usort]
  | x :: r => by
    unfold usort
    rw [insU_mem, usort_mem, List.mem_cons]
theorem ilt_of {x y : List Int} (h : ¬ x < y) (n : x ≠ y) : y < x := by
  rcases Decidable.em (y < x) with c | c
  · exact c
  · exact absurd (List.le_antisymm (List.not_lt.mp c) (List.not_lt.mp h)) n
theorem insU_sorted {x : List Int} : ∀ {l : List (List Int)}, l.Pairwise (· < ·) → (insU x l).Pairwise (· < ·)
  | [], _ => by simp [insU]
  | z :: r, h => by
    have h' := List.pairwise_cons.mp h
    unfold insU
    split
    · rename_i c
      refine List.pairwise_cons.mpr ⟨fun y hy => ?_, h⟩
      rcases List.mem_cons.mp hy with e | hy
      · rw [e]; exact c
      · exact List.lt_trans c (h'.1 y hy)
    · rename_i c
      split
      · exact h
      · rename_i n
        refine List.pairwise_cons.mpr ⟨fun y hy => ?_, insU_sorted h'.2⟩
        rcases insU_mem.mp hy with e | hy
        · rw [e]; exact ilt_of c n
        · exact h'.1 y hy
theorem usort_sorted : ∀ (l : List (List Int)), (usort l).Pairwise (· < ·)
  | [] => .nil
  | x :: r => insU_sorted (usort_sorted r)
theorem strict_uniq : ∀ {l m : List (List Int)}, l.Pairwise (· < ·) → m.Pairwise (· < ·) → (∀ x, x ∈ l ↔ x ∈ m) → l = m
  | [], [], _, _, _ => rfl
  | [], y :: m, _, _, h => absurd ((h y).mpr List.mem_cons_self) (by simp)
  | x :: l, [], _, _, h => absurd ((h x).mp List.mem_cons_self) (by simp)
  | x :: l, y :: m, h1, h2, h => by
    have a1 := List.pairwise_cons.mp h1
    have a2 := List.pairwise_cons.mp h2
    have e : x = y := by
      rcases List.mem_cons.mp ((h x).mp List.mem_cons_self) with e | hx
      · exact e
      · rcases List.mem_cons.mp ((h y).mpr List.mem_cons_self) with e | hy
        · exact e.symm
        · exact absurd (List.lt_trans (a1.1 y hy) (a2.1 x hx)) (List.lt_irrefl _)
    subst e
    refine congrArg _ (strict_uniq a1.2 a2.2 fun z => ⟨fun hz => ?_, fun hz => ?_⟩)
    · rcases List.mem_cons.mp ((h z).mp (List.mem_cons_of_mem _ hz)) with e | q
      · subst e; exact absurd (a1.1 _ hz) (List.lt_irrefl _)
      · exact q
    · rcases List.mem_cons.mp ((h z).mpr (List.mem_cons_of_mem _ hz)) with e | q
      · subst e; exact absurd (a2.1 _ hz) (List.lt_irrefl _)
      · exact q
theorem strict_of {l : List (List Int)} (h : l.Pairwise (· ≤ ·)) (n : l.Nodup) : l.Pairwise (· < ·) := by
  refine List.Pairwise.imp₂ (fun a b h1 h2 => ?_) h n
  exact ilt_of (List.not_lt.mpr h1) (Ne.symm h2)
section
variable {X : Cx}
def rSortedU (K : PySem.W.Frag) (P : Program) (w : World) : List V → Hp → VK → Prop := fun vs H Q => ∃ (a : Addr) (L : List (Addr × List Int)), vs = [V.ref a] ∧ H a = some (SetTO P w a L) ∧ (∀ p ∈ L, SqT K H p.1 (p.2.map V.int)) ∧ (∀ p ∈ L, p.2 ≠ []) ∧
  ∀ (L' : List (Addr × List Int)) (p : Addr), L'.Perm L → (L'.map (·.2)).Nodup → L'.length < 64 → L'.Pairwise (fun q r => q.2 ≤ r.2) → H p = none → Q (.ref p) (upd H p (.lst (L'.map fun q => V.ref q.1)))
theorem dp_ints {K : PySem.W.Frag} {H : Hp} : ∀ (ns : List Int), DpAll K H (ns.map V.int) (ns.map .int)
  | [] => .nil
  | n :: r => .cons (.int n) (dp_ints r)
theorem c_sortedU (hc : X.calm = true) (hu : X.A.units + 20 < cLine) : CallR X (.builtin "sorted") (rSortedU X.K X.prog X.w) := by
  intro pins s σ H vs us Q I r h
  obtain ⟨a, L, rfl, ha, hk, hne, q⟩ := h
  have R0 : SetT0 X.prog X.w s.heap a L := (I.hok a _ ha).1
  obtain ⟨es, ep, t, R⟩ := R0.full fun p hp => I.isT (hk p hp)
  rw [Vals.ref1 r]
  refine sorted_setU R (I.ok.hd hc) hu (fun p hp => Dp.reads I (.tuple (p.2.map .int)) (.ref p.1) (.ref p.1) (.tup (hk p hp) (dp_ints p.2)) rfl) hne fun s' p out c L' k g o hp hg hout pm pw => ?_
  have hfew : L'.length < 64 := by rw [pm.length_eq]; exact R.few
  have hlen : (L'.map fun q => V.ref q.1).length ≤ sizeLine := by rw [List.length_map, sizeLine_eq]; omega
  have hn : H p = none := I.hok.fresh hp
  have hv : Vals (L'.map fun q => V.ref q.1) out.toList := by rw [hout]; exact vals_of_refs L'
  have J : Inv X pins σ (upd H p (.lst (L'.map fun q => V.ref q.1))) { s with heap := s'.heap, gens := s'.gens, drawn := s'.drawn, toks := s'.toks } :=
    I.call (ch := []) (Un.laid k hp hn) (I.hok.laid k hp ⟨hlen, out.toList, c, hv, hg⟩) (by rw [g]; exact I.bare) (fun _ z => nomatch z)
  have e : s' = { s with heap := s'.heap, gens := s'.gens, drawn := s'.drawn, toks := s'.toks } := by
    cases s'
    cases s
    cases o
    rfl
  rw [e]
  exact ⟨.ref p, _, J, rfl, q L' p pm ((pm.map (·.2)).nodup_iff.mpr R.nd) hfew pw hn⟩
end
theorem RpA.tups {A : Addr → Prop} {H : Hp} : ∀ {ds : List D} {xs : List V} {nss : List (List Int)}, RpA A H xs ds → asTups ds = some nss →
    ∃ ks : List (Addr × List Int), xs = ks.map (fun p => V.ref p.1) ∧ ks.map (·.2) = nss ∧ ∀ p ∈ ks, Tp H p.1 (p.2.map V.int) ∧ Rp A H (.ref p.1) (.tuple (p.2.map .int))
  | [], _, nss, .nil, h => by
    cases h
    exact ⟨[], rfl, rfl, fun p hp => by cases hp⟩
  | d :: ds, _, nss, .cons h r, e => by
    cases h with
    | @tup a xs l n ht z ra =>
      unfold asTups at e
      split at e
      · rename_i ns nss' e1 e2
        cases e
        obtain ⟨ks, q1, q2, q3⟩ := RpA.tups r e2
        have e3 := ra.asInts e1
        have e4 := asInts_some e1
        subst e3
        subst e4
        refine ⟨(a, ns) :: ks, by rw [q1]; rfl, by rw [List.map_cons, q2], fun p hp => ?_⟩
        rcases List.mem_cons.mp hp with e | hp
        · subst e
          exact ⟨ht, .tup n ht z ra⟩
        · exact q3 p hp
      · cases e
    | _ => cases e
theorem RpA.ofTups {A : Addr → Prop} {H : Hp} : ∀ {ks : List (Addr × List Int)}, (∀ p ∈ ks, Rp A H (.ref p.1) (.tuple (p.2.map .int))) → RpA A H (ks.map fun p => V.ref p.1) (ks.map fun p => .tuple (p.2.map .int))
  | [], _ => .nil
  | p :: ks, h => .cons (h p List.mem_cons_self) (RpA.ofTups fun q hq => h q (List.mem_cons_of_mem _ hq))
/-- what is asked: first a set, then sorted of it -/
theorem sortSet_use {K : PySem.W.Frag} {P : Program} {w : World} {A : Addr → Prop} {H : Hp} {v : V} {d : D} {Q : VK} (tr : Trk A H) (hr : Rp A H v d) (h : Aft A H (evBi .sortSet [d]) Q) : rSetOfT K P w [v] H fun u H2 => rSortedU K P w [u] H2 Q := by
  cases hr with
  | @lst a xs ds n hl z ra =>
    simp only [evBi] at h
    cases e : asTups ds with
    | none => rw [e] at h; exact h.st
    | some nss =>
      rw [e] at h
      obtain ⟨⟨c1, c2⟩, h⟩ := h.ite
      have h := h.of
      obtain ⟨ks, rfl, rfl, q3⟩ := ra.tups e
      rw [List.length_map] at c1
      refine ⟨a, ks, rfl, .inl hl, fun p hp => (q3 p hp).1.sq, c1, fun a' L hn hs ha => ⟨a', L, rfl, upd_same, fun p hp => ?_, fun p hp => ?_, fun L' p' pm nd hf pw hp' => ?_⟩⟩
      · exact ((q3 p (hs p hp)).1.same (same_upd hn)).sq
      · have := List.all_eq_true.mp c2 p.2 (List.mem_map.mpr ⟨p, hs p hp, rfl⟩)
        cases h2 : p.2 with
        | nil => rw [h2] at this; cases this
        | cons x r => simp
      · have s1 : Same H (upd H a' (SetTO P w a' L)) := same_upd hn
        have s2 : Same (upd H a' (SetTO P w a' L)) (upd (upd H a' (SetTO P w a' L)) p' (.lst (L'.map fun q => V.ref q.1))) := same_upd hp'
        refine h _ _ (s1.trans s2) ?_
        have eq : L'.map (·.2) = usort (ks.map (·.2)) := by
          refine strict_uniq (strict_of (List.pairwise_map.mpr pw) nd) (usort_sorted _) fun x => ?_
          rw [usort_mem, (pm.map (·.2)).mem_iff]
          constructor
          · intro hx
            obtain ⟨p, hp, rfl⟩ := List.mem_map.mp hx
            exact List.mem_map.mpr ⟨p, hs p hp, rfl⟩
          · intro hx
            obtain ⟨p, hp, rfl⟩ := List.mem_map.mp hx
            exact ha p hp
        rw [← eq, List.map_map]
        refine Rp.newL (tr.same s1) hp' (by rw [List.length_map, sizeLine_eq]; omega) ?_
        exact RpA.ofTups fun p hp => Rp.same s1 _ _ (q3 p (hs p (pm.mem_iff.mp hp))).2
  | _ => exact h.st
end PC
set_option Elab.async false
set_option linter.all false
namespace PC
open PySem PySem.Spec PyProof.Rows L2
theorem PE.imp {X : Cx} {e : Expr} {t t' : TE} (h : PE X e t) (i : ∀ σ H Q, t' σ H Q → t σ H Q) : PE X e t' := ⟨fun pins s σ H Q I q => h.run pins s σ H Q I (i σ H Q q)⟩
theorem PT.imp {X : Cx} {e : Expr} {t t' : TT} (h : PT X e t) (i : ∀ σ H Q, t' σ H Q → t σ H Q) : PT X e t' := ⟨fun pins s σ H Q I q => h.run pins s σ H Q I (i σ H Q q)⟩
theorem PW.imp {X : Cx} {e : Expr} {t t' : TT} (h : PW X e t) (i : ∀ σ H Q, t' σ H Q → t σ H Q) : PW X e t' := ⟨fun wh pins s σ H Q I q => h.run wh pins s σ H Q I (i σ H Q q)⟩
theorem PA.imp {X : Cx} {e : List Expr} {t t' : TA} (h : PA X e t) (i : ∀ σ H Q, t' σ H Q → t σ H Q) : PA X e t' := ⟨fun pos pins s σ H Q I q => h.run pos pins s σ H Q I (i σ H Q q)⟩
theorem PI.imp {X : Cx} {tg e : Expr} {t t' : TI} (h : PI X tg e t) (i : ∀ σ H Q, t' σ H Q → t σ H Q) : PI X tg e t' := ⟨fun pins s σ H Q I q => h.run pins s σ H Q I (i σ H Q q)⟩
theorem PTs.imp {X : Cx} {e : List Expr} {t t' : TT} (h : PTs X e t) (i : ∀ σ H Q, t' σ H Q → t σ H Q) : PTs X e t' := ⟨fun pins s σ H Q I q => h.run pins s σ H Q I (i σ H Q q)⟩
theorem PO.imp {X : Cx} {e : Option Expr} {t t' : TO} (h : PO X e t) (i : ∀ σ H Q, t' σ H Q → t σ H Q) : PO X e t' := ⟨fun pins s σ H Q I q => h.run pins s σ H Q I (i σ H Q q)⟩
theorem ix?_some {x : Str} : ∀ {N : List Str} {k i : Nat}, ix? x N k = some i → ∃ j, i = k + j ∧ N[j]? = some x
  | [], k, i, h => by simp [ix?] at h
  | y :: r, k, i, h => by
    unfold ix? at h
    split at h
    · rename_i c
      cases h
      have : x = y := by simpa using c
      subst this
      exact ⟨0, rfl, rfl⟩
    · obtain ⟨j, e1, e2⟩ := ix?_some h
      exact ⟨j + 1, by omega, by simpa using e2⟩
theorem ix?_zero {x : Str} {N : List Str} {i : Nat} (h : ix? x N 0 = some i) : N[i]? = some x := by
  obtain ⟨j, e, q⟩ := ix?_some h
  rw [Nat.zero_add] at e
  subst e
  exact q
theorem vis_of {sc : Scope} {x : Str} (h : visB sc x = true) : Vis sc x := by
  unfold visB at h
  split at h
  · exact .inl (by assumption)
  · exact .inr (.inl (by assumption))
  · exact .inr (.inr (by assumption))
  · cases h
theorem loc_of {sc : Scope} {x : Str} (h : locB sc x = true) : Loc sc x := by
  unfold locB at h
  split at h
  · exact .inl (by assumption)
  · exact .inr (by assumption)
  · cases h
theorem gl_of {X : Cx} {sc : Scope} {x : Str} (e : X.env.scope = sc) (h : glB sc x = true) : Gl X x := by
  unfold glB at h
  split at h
  · show X.env.scope.names.lookup x = _
    rw [e]; assumption
  · cases h
theorem star_of {g : G} {n : Nat} {cm : Bool} {sc : Scope} {e : Expr} {ir : E} (h : cE g n cm sc e = some ir) (es : List Expr) (env : PySem.Env) : starEach (e :: es) env = (false, eval e env) :: starEach es env := by
  cases n with
  | zero => simp [cE] at h
  | succ n => cases e <;> first | rfl | (simp [cE] at h)
theorem anyStar {g : G} : ∀ {n : Nat} {cm : Bool} {sc : Scope} {es : List Expr} {ir : Es}, cEs g n cm sc es = some ir → ∀ (pos : Pos) (env : PySem.Env), (backTo pos (starEach es env)).any (·.1) = false
  | 0, _, _, es, _, h, _, _ => by simp [cEs] at h
  | n + 1, _, _, [], _, _, _, _ => rfl
  | n + 1, cm, sc, e :: r, ir, h, pos, env => by
    simp only [cEs, Option.bind_eq_some_iff, Option.map_eq_some_iff] at h
    obtain ⟨x, h1, y, h2, _⟩ := h
    rw [star_of h1]
    show (false || (backTo pos (starEach r env)).any (·.1)) = false
    rw [anyStar h2]; rfl
theorem evs_len {g : G} {Φ : Phi} : ∀ {n : Nat} {cm : Bool} {sc : Scope} {es : List Expr} {ir : Es} {env : Env} {l : List D}, cEs g n cm sc es = some ir → evs Φ ir env = .ok l → l.length = es.length
  | 0, _, _, es, _, _, _, h, _ => by simp [cEs] at h
  | n + 1, _, _, [], _, _, l, h, q => by
    simp only [cEs, Option.some.injEq] at h
    subst h
    simp only [evs] at q
    cases q; rfl
  | n + 1, cm, sc, e :: r, ir, env, l, h, q => by
    simp only [cEs, Option.bind_eq_some_iff, Option.map_eq_some_iff] at h
    obtain ⟨x, h1, y, h2, rfl⟩ := h
    simp only [evs] at q
    cases e1 : evE Φ x env with
    | ok d =>
      rw [e1] at q
      simp only [R.bind] at q
      cases e2 : evs Φ y env with
      | ok l2 =>
        rw [e2] at q
        cases q
        simp [evs_len h2 e2]
      | ex c => rw [e2] at q; cases q
      | st => rw [e2] at q; cases q
    | ex c => rw [e1] at q; cases q
    | st => rw [e1] at q; cases q
structure Snd (g : G) (k : Nat) (n : Nat) : Prop where
  e : ∀ cm sc e ir X p, OkX g k cm sc X p → cE g n cm sc e = some ir → PE X e (tE p ir)
  t : ∀ cm sc e ir X p, OkX g k cm sc X p → cE g n cm sc e = some ir → PT X e (tT p ir)
  an : ∀ cm sc a r pos ir X p, OkX g k cm sc X p → cAnd g n cm sc a r = some ir → PE X (.BoolOp .And (a :: r) pos) (tE p ir) ∧ PW X (.BoolOp .And (a :: r) pos) (tT p ir)
  or : ∀ cm sc a r pos ir X p, OkX g k cm sc X p → cOr g n cm sc a r = some ir → PE X (.BoolOp .Or (a :: r) pos) (tE p ir) ∧ PW X (.BoolOp .Or (a :: r) pos) (tT p ir)
  es : ∀ cm sc es ir X p, OkX g k cm sc X p → cEs g n cm sc es = some ir → PA X es (tEs p ir)
  c : ∀ cm sc os bs ir X p, OkX g k cm sc X p → cC g n cm sc os bs = some ir → lastMarks os bs = false ∧
    (∀ pos pins s σ H x v Q, Inv X pins σ H s → RelV x v → tCh p ir x σ H Q → wpAny (model X.prog X.w) X.A (compareChain pos v os (evalEach bs X.env)) (EP X pins σ Q) X.xe s) ∧
    (∀ pos pins s σ H x v Q, Inv X pins σ H s → RelV x v → tChT p ir x σ H Q → wpAny (model X.prog X.w) X.A (testChain pos v os (evalEach bs X.env)) (TP X pins σ Q) X.xe s)
  o : ∀ cm sc o ir X p, OkX g k cm sc X p → cO g n cm sc o = some ir → PO X o (tO p ir)
  f : ∀ cm sc l ir X p, OkX g k cm sc X p → cF g n cm sc l = some ir → PTs X l (tF p ir)
  i : ∀ cm sc t it ir X p, OkX g k cm sc X p → cI g n cm sc t it = some ir → PI X t it (tI p ir)
section
variable {g : G} {k : Nat} {cm : Bool} {sc : Scope} {X : Cx} {p : Pm}
theorem l_name {x : Str} {pos : Pos} {ir : E} (ok : OkX g k cm sc X p) (h : cName g sc x = some ir) : PE X (.Name x pos) (tE p ir) := by
  unfold cName at h
  split at h
  · cases h
  rename_i hd
  simp only [Bool.or_eq_true, not_or, Bool.not_eq_true] at hd
  split at h
  · rename_i i hi
    split at h
    · rename_i hv
      cases h
      refine PE.imp (pe_var (i := i) (by rw [ok.hN]; exact ix?_zero hi) (by rw [ok.sc]; exact vis_of hv) hd.1 hd.2) fun σ H Q q => ?_
      obtain ⟨A, env, pre, q⟩ := q
      simp only [evE] at q
      cases e : rdS (geti env i) with
      | ok d =>
        rw [e] at q
        obtain ⟨v, e1, e2⟩ := pre.rr i (by simp [E.vars]) d e
        exact ⟨v, e1, q.here v e2⟩
      | ex c =>
        cases q2 : geti env i <;> rw [q2] at e <;> cases e
      | st => rw [e] at q; exact q.elim
    · cases h
  · split at h
    · rename_i hg
      simp only [Option.map_eq_some_iff] at h
      obtain ⟨i, h, rfl⟩ := h
      obtain ⟨t, hm⟩ := ok.lk.ci x i h
      refine PE.imp (pe_glob (v := .int i) (gl_of ok.sc hg) hm ⟨t, rfl⟩ hd.1) fun σ H Q q => ?_
      obtain ⟨A, env, pre, q⟩ := q
      exact q.here _ (.int i)
    · cases h
theorem After.aft {σ : L2.St} {H : Hp} {A : Addr → Prop} {r : R D} {Q : VK} (hr : ∀ c, r ≠ .ex c) (h : After p σ H r (kD A Q)) : Aft A H r Q := by
  cases r with
  | ok d => exact ⟨d, rfl, fun v H' s q => h H' s v q⟩
  | ex c => exact absurd rfl (hr c)
  | st => exact h.elim
theorem evOp_nx {o : Op} {a b : D} (c : Str) : evOp o a b ≠ .ex c := by
  unfold evOp
  split <;> (try split) <;> (intro h; cases h)
theorem getAt_nx {l : List D} {i : Int} (c : Str) : getAt l i ≠ .ex c := by
  unfold getAt
  split <;> (intro h; cases h)
theorem evIx_nx {a b : D} (c : Str) : evIx a b ≠ .ex c := by
  unfold evIx
  split
  · exact getAt_nx c
  · exact getAt_nx c
  · split
    · split <;> (intro h; cases h)
    · intro h; cases h
  · split
    · split <;> (intro h; cases h)
    · intro h; cases h
  · intro h; cases h
theorem evSl_nx {a : D} {i j : Option Int} (c : Str) : evSl a i j ≠ .ex c := by
  unfold evSl
  split <;> (try split) <;> (intro h; cases h)
theorem evBi_nx {b : Bi} {l : List D} (c : Str) : evBi b l ≠ .ex c := by
  unfold evBi
  split <;> (repeat' split) <;> (intro h; cases h)
theorem evMt_nx {m : Mt} {a b : D} (c : Str) : evMt m a b ≠ .ex c := by
  unfold evMt
  split <;> (repeat' split) <;> (intro h; cases h)
theorem ltD_nx {a b : D} (c : Str) : ltD a b ≠ .ex c := by
  unfold ltD
  split <;> (repeat' split) <;> (intro h; cases h)
theorem notR_nx {r : R Bool} (h : ∀ c, r ≠ .ex c) (c : Str) : notR r ≠ .ex c := by
  cases r with
  | ok b => intro h; cases h
  | ex d => exact absurd rfl (h d)
  | st => intro h; cases h
theorem eqD_nx {a b : D} (c : Str) : eqD a b ≠ .ex c := by
  unfold eqD
  split <;> (intro h; cases h)
theorem inD_nx {a b : D} (c : Str) : inD a b ≠ .ex c := by
  unfold inD
  split <;> (repeat' split) <;> (intro h; cases h)
theorem evCm_nx {o : Cm} {a b : D} (c : Str) : evCm o a b ≠ .ex c := by
  cases o with
  | eq => exact eqD_nx c
  | ne => exact notR_nx eqD_nx c
  | lt => exact ltD_nx c
  | le => exact notR_nx ltD_nx c
  | gt => exact ltD_nx c
  | ge => exact notR_nx ltD_nx c
  | in_ => exact inD_nx c
  | nin => exact notR_nx inD_nx c
/-- one argument -/
theorem bi1 {b : Bi} {x : E} {σ : L2.St} {H : Hp} {Q : VK} (q : tE p (.bi b (.cons x .nil)) σ H Q) : tE p x σ H fun v H1 => ∃ A a, Trk A H1 ∧ Rp A H1 v a ∧ Aft A H1 (evBi b [a]) Q := by
  obtain ⟨A, env, pre, q⟩ := q
  refine ⟨A, env, pre.sub (fun i hi => by simpa [E.vars, Es.vars] using hi), ?_⟩
  simp only [evE, evs] at q
  have q1 := q.bind.bind
  refine q1.mono fun d H1 s q2 v hv => ⟨A, d, pre.tr.same s, hv, After.aft (p := p) (σ := σ) evBi_nx (After.here (a := [d]) q2)⟩
theorem bi2 {b : Bi} {x y : E} {σ : L2.St} {H : Hp} {Q : VK} (q : tE p (.bi b (.cons x (.cons y .nil))) σ H Q) : tE p x σ H fun v H1 => tE p y σ H1 fun u H2 => ∃ A a c, Trk A H2 ∧ Rp A H2 v a ∧ Rp A H2 u c ∧ Aft A H2 (evBi b [a, c]) Q := by
  obtain ⟨A, env, pre, q⟩ := q
  have pre' : Pre p (x.vars ++ y.vars) A env σ H := pre.sub fun i hi => by simpa [E.vars, Es.vars] using hi
  refine ⟨A, env, pre'.left, ?_⟩
  simp only [evE, evs] at q
  have q1 := q.bind.bind
  refine q1.mono fun d H1 s q2 v hv => ⟨A, env, (pre'.same s).right, ?_⟩
  have q3 := q2.bind.bind
  exact q3.mono fun e H2 s2 q4 u hu => ⟨A, d, e, pre.tr.same (s.trans s2), Rp.same s2 _ _ hv, hu, After.aft (p := p) (σ := σ) evBi_nx (After.here (a := [d, e]) (After.here (a := [e]) q4))⟩
end
theorem blt_of {g : G} {k : Nat} {cm : Bool} {sc : Scope} {X : Cx} {p : Pm} (ok : OkX g k cm sc X p) {x : Str} (h : x ∈ biNames) : X.mg x = none := ok.lk.bi x h
section
variable {g : G} {k n : Nat} {cm : Bool} {sc : Scope} {X : Cx} {p : Pm}
theorem l_not {a : Expr} {x : E} {pos : Pos} (h : PE X a (tE p x)) : PE X (.UnaryOp .Not a pos) (tE p (.not x)) := by
  refine PE.imp (pe_not h) fun σ H Q q => ?_
  obtain ⟨A, env, pre, q⟩ := q
  refine ⟨A, env, pre, ?_⟩
  simp only [evE] at q
  cases e : evE p.Φ x env with
  | ok d =>
    rw [e] at q
    cases d with
    | bool b =>
      intro H' s v hv
      cases hv
      exact ⟨b, rfl, q H' s _ (.bl _)⟩
    | _ => exact False.elim q
  | ex c => rw [e] at q; exact q
  | st => rw [e] at q; exact q
theorem l_neg {a : Expr} {x : E} {pos : Pos} (h : PE X a (tE p x)) : PE X (.UnaryOp .USub a pos) (tE p (.bi .neg (.cons x .nil))) := by
  refine PE.imp (pe_un un_neg h) fun σ H Q q => ?_
  obtain ⟨A, env, pre, q⟩ := bi1 q
  refine ⟨A, env, pre, q.mono fun d H1 s q2 v hv => ?_⟩
  obtain ⟨A2, a2, tr, ha, hq⟩ := q2 v hv
  cases ha with
  | int i => exact ⟨i, rfl, hq.of _ _ (Same.refl _) (.int _)⟩
  | _ => exact hq.st
theorem tE.mono {x : E} {σ : L2.St} {H : Hp} {Q Q' : VK} (h : tE p x σ H Q) (m : ∀ v H', Same H H' → Q v H' → Q' v H') : tE p x σ H Q' := by
  obtain ⟨A, env, pre, q⟩ := h
  exact ⟨A, env, pre, q.mono fun d H' s q v hv => m v H' s (q v hv)⟩
theorem l_op {a b : Expr} {o : Operator} {o' : Op} {x y : E} {pos : Pos} (ho : opOf o = some o') (ha : PE X a (tE p x)) (hb : PE X b (tE p y)) : PE X (.BinOp a o b pos) (tE p (.op o' x y)) := by
  rw [opOf_eq ho]
  refine PE.imp (pe_op (op_D o') ha hb) fun σ H Q q => ?_
  obtain ⟨A, env, pre, q⟩ := q
  simp only [evE] at q
  refine ⟨A, env, pre.left, q.bind.mono fun d H1 s q2 v hv => ⟨A, env, (pre.same s).right, q2.bind.mono fun e H2 s2 q3 u hu => ⟨A, d, e, pre.tr.same (s.trans s2), Rp.same s2 _ _ hv, hu, After.aft (p := p) (σ := σ) evOp_nx q3⟩⟩⟩
theorem tT_tE {p : Pm} {x : E} {σ : L2.St} {H : Hp} {Q : Bool → Hp → Prop} (h : tT p x σ H Q) : tE p x σ H fun v H' => ∃ k, v = .bl k ∧ Q k H' := by
  obtain ⟨A, env, pre, q⟩ := h
  refine ⟨A, env, pre, q.toB.mono fun d H' s q v hv => ?_⟩
  obtain ⟨b, rfl, q⟩ := q
  cases hv
  exact ⟨b, rfl, q⟩
theorem bothC {a b : Expr} {op : CmpOp} {r : R2} {ta tb : TE} {ir : E} {pos : Pos} (ho : OpR X (compareOp op) r) (ha : PE X a ta) (hb : PE X b tb) (hm : behindInMarks op b = false) (i : ∀ σ H Q, tE p ir σ H Q → tOp r ta tb σ H Q) :
    PE X (.Compare a [op] [b] pos) (tE p ir) ∧ PT X (.Compare a [op] [b] pos) (tT p ir) := ⟨PE.imp (pe_cmpR ho ha hb hm) i, PT.imp (pt_cmpR ho ha hb hm) fun σ H Q q => i _ _ _ (tT_tE q)⟩
theorem l_isN {a : Expr} {x : E} {j : Nat} {pos pos' : Pos} (ha : PE X a (tE p x)) : PE X (.Compare a [.Is] [.Constant .none j pos'] pos) (tE p (.bi .isNone (.cons x .nil))) ∧ PT X (.Compare a [.Is] [.Constant .none j pos'] pos) (tT p (.bi .isNone (.cons x .nil))) := by
  refine bothC op_isN ha pe_non (nomark _) fun σ H Q q => (bi1 q).mono fun v H' s q => ?_
  obtain ⟨A, d, tr, hd, q⟩ := q
  refine ⟨rfl, ?_⟩
  cases hd <;> exact q.of _ _ (Same.refl _) (.bl _)
theorem l_notN {a : Expr} {x : E} {j : Nat} {pos pos' : Pos} (ha : PE X a (tE p x)) : PE X (.Compare a [.IsNot] [.Constant .none j pos'] pos) (tE p (.bi .notNone (.cons x .nil))) ∧ PT X (.Compare a [.IsNot] [.Constant .none j pos'] pos) (tT p (.bi .notNone (.cons x .nil))) := by
  refine bothC op_notN ha pe_non (nomark _) fun σ H Q q => (bi1 q).mono fun v H' s q => ?_
  obtain ⟨A, d, tr, hd, q⟩ := q
  refine ⟨rfl, ?_⟩
  cases hd <;> exact q.of _ _ (Same.refl _) (.bl _)
theorem l_isB {a : Expr} {x : E} {b : Bool} {j : Nat} {pos pos' : Pos} (ha : PE X a (tE p x)) : PE X (.Compare a [.Is] [.Constant (.bool b) j pos'] pos) (tE p (.bi (.isB b false) (.cons x .nil))) ∧ PT X (.Compare a [.Is] [.Constant (.bool b) j pos'] pos) (tT p (.bi (.isB b false) (.cons x .nil))) := by
  refine bothC op_is_bl ha pe_bl (nomark _) fun σ H Q q => (bi1 q).mono fun v H' s q => ?_
  obtain ⟨A, d, tr, hd, q⟩ := q
  cases hd with
  | bl c => exact ⟨c, b, rfl, rfl, q.of _ _ (Same.refl _) (.bl _)⟩
  | _ => exact q.st
theorem l_notB {a : Expr} {x : E} {b : Bool} {j : Nat} {pos pos' : Pos} (ha : PE X a (tE p x)) : PE X (.Compare a [.IsNot] [.Constant (.bool b) j pos'] pos) (tE p (.bi (.isB b true) (.cons x .nil))) ∧ PT X (.Compare a [.IsNot] [.Constant (.bool b) j pos'] pos) (tT p (.bi (.isB b true) (.cons x .nil))) := by
  refine bothC op_isnot_bl ha pe_bl (nomark _) fun σ H Q q => (bi1 q).mono fun v H' s q => ?_
  obtain ⟨A, d, tr, hd, q⟩ := q
  cases hd with
  | bl c => exact ⟨c, b, rfl, rfl, q.of _ _ (Same.refl _) (.bl _)⟩
  | _ => exact q.st
theorem l_cst {a : Expr} {x : E} {ops : List CmpOp} {cs : List Expr} {neg : Bool} {l : List D} {pos : Pos} (ok : OkX g k cm sc X p) (h : cstOf g sc ops cs = some (neg, l)) (ha : PE X a (tE p x)) :
    PE X (.Compare a ops cs pos) (tE p (.bi (if neg then .ninC l else .inC l) (.cons x .nil))) ∧ PT X (.Compare a ops cs pos) (tT p (.bi (if neg then .ninC l else .inC l) (.cons x .nil))) := by
  unfold cstOf at h
  split at h
  · split at h
    · rename_i c
      simp only [Bool.and_eq_true, Bool.not_eq_true'] at c
      simp only [Option.map_eq_some_iff, Prod.mk.injEq] at h
      obtain ⟨l', hl, rfl, rfl⟩ := h
      obtain ⟨t, hm, hd⟩ := ok.lk.ct _ _ hl
      refine bothC (r := fun v u H Q => u = .ref t ∧ ∃ A d, Trk A H ∧ Rp A H v d ∧ Aft A H (evBi (.inC l') [d]) Q) ?_ ha (pe_glob (v := .ref t) (gl_of ok.sc c.1) hm rfl c.2) (by rfl) fun σ H Q q => (bi1 q).mono fun v H' s q => ⟨rfl, q⟩
      intro pins s σ H x y v u Q I rx ry q
      obtain ⟨rfl, A, d, tr, hr, e, he, q⟩ := q
      simp only [evBi] at he
      split at he
      · rename_i c
        cases he
        rw [Bool.and_eq_true] at c
        obtain ⟨as, r1⟩ := Dp.reads I d x v (Rp.dp _ _ (noD_shaped c.1) hr) rx
        obtain ⟨bs, r2⟩ := Dp.reads I (.tuple l') _ u (hd H) ry
        exact SeqAt.in_tuple_reads r2 r1 (SeqAt.canLay_of_shaped c.2) (SeqAt.canLay_of_shaped c.1) (room_in_shaped c.1 (by have := ok.un; omega)) ⟨.bl _, H, I, rfl, q _ _ (Same.refl H) (.bl _)⟩
      · cases he
    · cases h
  · split at h
    · rename_i c
      simp only [Bool.and_eq_true, Bool.not_eq_true'] at c
      simp only [Option.map_eq_some_iff, Prod.mk.injEq] at h
      obtain ⟨l', hl, rfl, rfl⟩ := h
      obtain ⟨t, hm, hd⟩ := ok.lk.ct _ _ hl
      refine bothC (r := fun v u H Q => u = .ref t ∧ ∃ A d, Trk A H ∧ Rp A H v d ∧ Aft A H (evBi (.ninC l') [d]) Q) ?_ ha (pe_glob (v := .ref t) (gl_of ok.sc c.1) hm rfl c.2) (by rfl) fun σ H Q q => (bi1 q).mono fun v H' s q => ⟨rfl, q⟩
      intro pins s σ H x y v u Q I rx ry q
      obtain ⟨rfl, A, d, tr, hr, e, he, q⟩ := q
      simp only [evBi] at he
      split at he
      · rename_i c
        cases he
        rw [Bool.and_eq_true] at c
        obtain ⟨as, r1⟩ := Dp.reads I d x v (Rp.dp _ _ (noD_shaped c.1) hr) rx
        obtain ⟨bs, r2⟩ := Dp.reads I (.tuple l') _ u (hd H) ry
        exact SeqAt.notIn_tuple_reads r2 r1 (SeqAt.canLay_of_shaped c.2) (SeqAt.canLay_of_shaped c.1) (room_in_shaped c.1 (by have := ok.un; omega)) ⟨.bl _, H, I, rfl, q _ _ (Same.refl H) (.bl _)⟩
      · cases he
    · cases h
  · cases h
theorem l_tup {es : List Expr} {x : Es} {j : Nat} {pos : Pos} (c : es.length ≤ 1000) (hx : cEs g n cm sc es = some x) (ha : PA X es (tEs p x)) : PE X (.Tuple es j pos) (tE p (.tup x)) := by
  refine PE.imp (pe_tupN ha) fun σ H Q q => ?_
  obtain ⟨A, env, pre, q⟩ := q
  refine ⟨A, env, pre, ?_⟩
  simp only [evE] at q
  cases e : evs p.Φ x env with
  | ok l =>
    rw [e] at q
    have hl := evs_len hx e
    intro H' s vs hvs
    have hz : vs.length ≤ sizeLine := by rw [hvs.length, hl, sizeLine_eq]; omega
    exact ⟨hz, fun t o ht hd => q (upd H' t (.frz o (.tup vs))) (s.trans (same_upd ht)) _ (Rp.newT (pre.tr.same s) ht hd hz hvs)⟩
  | ex c => rw [e] at q; exact q
  | st => rw [e] at q; exact q
theorem l_lst {es : List Expr} {x : Es} {pos : Pos} (c : es.length ≤ 1000) (hx : cEs g n cm sc es = some x) (ha : PA X es (tEs p x)) : PE X (.List es pos) (tE p (.lst x)) := by
  refine PE.imp (pe_lst ha) fun σ H Q q => ?_
  obtain ⟨A, env, pre, q⟩ := q
  refine ⟨A, env, pre, ?_⟩
  simp only [evE] at q
  cases e : evs p.Φ x env with
  | ok l =>
    rw [e] at q
    have hl := evs_len hx e
    intro H' s vs hvs
    have hz : vs.length ≤ sizeLine := by rw [hvs.length, hl, sizeLine_eq]; omega
    exact ⟨hz, fun t ht => q (upd H' t (.lst vs)) (s.trans (same_upd ht)) _ (Rp.newL (pre.tr.same s) ht hz hvs)⟩
  | ex c => rw [e] at q; exact q
  | st => rw [e] at q; exact q
theorem l_rev {a : Expr} {x : E} {j : Nat} {p1 p2 p3 pos : Pos} (ha : PE X a (tE p x)) : PE X (.Subscript a (.Slice none none (some (.UnaryOp .USub (.Constant (.int 1) j p1) p2)) p3) pos) (tE p (.rev x)) := by
  refine PE.imp (pe_rev ha) fun σ H Q q => ?_
  obtain ⟨A, env, pre, q⟩ := q
  refine ⟨A, env, pre, ?_⟩
  simp only [evE] at q
  refine q.bind.mono fun d H' s q2 v hv => ⟨A, d, pre.tr.same s, hv, ?_⟩
  cases d with
  | list l => exact After.aft (p := p) (σ := σ) (fun c h => nomatch h) q2
  | tuple l => exact After.aft (p := p) (σ := σ) (fun c h => nomatch h) q2
  | _ => exact False.elim q2
theorem l_sl {a : Expr} {lo hi : Option Expr} {x : E} {l h : Oe} {p2 pos : Pos} (ha : PE X a (tE p x)) (hl : PO X lo (tO p l)) (hh : PO X hi (tO p h)) : PE X (.Subscript a (.Slice lo hi none p2) pos) (tE p (.sl x l h)) := by
  refine PE.imp (pe_slice sl_D ha hl hh) fun σ H Q q => ?_
  obtain ⟨A, env, pre, q⟩ := q
  simp only [evE] at q
  have pre2 : Pre p (l.vars ++ h.vars) A env σ H := pre.right
  refine ⟨A, env, pre.left, q.bind.mono fun d H1 s q2 v hv => ⟨A, env, (pre2.same s).left, q2.bind.mono fun i H2 s2 q3 => ⟨A, env, (pre2.same (s.trans s2)).right, q3.bind.mono fun j H3 s3 q4 => ⟨A, d, pre.tr.same (s.trans (s2.trans s3)), Rp.same (s2.trans s3) _ _ hv, After.aft (p := p) (σ := σ) evSl_nx q4⟩⟩⟩⟩
theorem l_ix (hu : X.A.units + 1 < cLine) {a b : Expr} {x y : E} {pos : Pos} (ha : PE X a (tE p x)) (hb : PE X b (tE p y)) (hs : ∀ lower upper step pos, b = .Slice lower upper step pos → False) : PE X (.Subscript a b pos) (tE p (.ix x y)) := by
  have hp : PlainIx b := by
    cases b <;> first | exact fun _ _ => rfl | exact absurd rfl (fun e => hs _ _ _ _ e)
  refine PE.imp (pe_ix (ix_D hu) ha hb hp) fun σ H Q q => ?_
  obtain ⟨A, env, pre, q⟩ := q
  simp only [evE] at q
  refine ⟨A, env, pre.left, q.bind.mono fun d H1 s q2 v hv => ⟨A, env, (pre.same s).right, q2.bind.mono fun e H2 s2 q3 u hu => ⟨A, d, e, pre.tr.same (s.trans s2), Rp.same s2 _ _ hv, hu, After.aft (p := p) (σ := σ) evIx_nx q3⟩⟩⟩
/-- a call of a def -/
theorem l_call {f : Str} {m : Nat} {e : Expr} {es : List Expr} {x : Es} {p0 pos : Pos} (ok : OkX g k true sc X p) (hg : glB sc f = true) (hd : (f == ("__debug__" : Str)) = false) (hf : g.fns.lookup f = some m) (hm : (e :: es).length = m)
    (hx : cEs g n cm sc (e :: es) = some x) (ha : PA X (e :: es) (tEs p x)) : PE X (.Call (.Name f p0) (e :: es) [] pos) (tE p (.call f x)) := by
  obtain ⟨fa, fd, ps, h1, h2, h3, h4, F⟩ := ok.lk.fn f m hf
  have hs : starEach (e :: es) X.env = (false, eval e X.env) :: starEach es X.env ∧ (backTo pos (starEach es X.env)).any (·.1) = false := by
    cases n with
    | zero => simp [cEs] at hx
    | succ n =>
      simp only [cEs, Option.bind_eq_some_iff, Option.map_eq_some_iff] at hx
      obtain ⟨y, g1, z, g2, _⟩ := hx
      exact ⟨star_of g1 es X.env, anyStar g2 pos X.env⟩
  refine PE.imp (pe_callS F (ok.room rfl) (gl_of ok.sc hg) h1 h2 h3 (fun σ => passAt ok.tk σ) ha hd hs.1 hs.2) fun σ H Q q => ?_
  obtain ⟨A, env, pre, q⟩ := q
  refine ⟨A, env, pre, ?_⟩
  simp only [evE] at q
  cases e1 : evs p.Φ x env with
  | ok l =>
    rw [e1] at q
    have hl := evs_len hx e1
    intro H' s vs hvs
    refine ⟨by rw [hvs.length, hl, hm], A, l, pre.tr.same s, hvs, ?_⟩
    have q : After p σ H (p.Φ f l) (kD A Q) := q
    cases e2 : p.Φ f l with
    | ok d => rw [e2] at q; exact fun v H2 s2 hv => q H2 (s.trans s2) v hv
    | ex c => rw [e2] at q; exact fun H2 s2 => q H2 (s.trans s2)
    | st => rw [e2] at q; exact q
  | ex c => rw [e1] at q; exact q
  | st => rw [e1] at q; exact q
theorem l_lenSet {a : Expr} {x : E} {p1 p2 q1 pos : Pos} (ok : OkX g k true sc X p) (hg : glB sc "len" = true) (hg2 : glB sc "set" = true) (hx : cE g n cm sc a = some x) (ha : PE X a (tE p x)) :
    PE X (.Call (.Name "len" p1) [.Call (.Name "set" p2) [a] [] q1] [] pos) (tE p (.bi .lenSet (.cons x .nil))) :=
  PE.imp (pe_lenSetD ok.cal (gl_of ok.sc hg) (blt_of ok (by decide)) (gl_of ok.sc hg2) (blt_of ok (by decide)) ha (star_of hx [] X.env)) fun σ H Q q => bi1 q
theorem l_sortSet {a : Expr} {x : E} {p1 p2 q1 pos : Pos} (ok : OkX g k true sc X p) (hg : glB sc "sorted" = true) (hg2 : glB sc "set" = true) (hx : cE g n cm sc a = some x) (ha : PE X a (tE p x)) :
    PE X (.Call (.Name "sorted" p1) [.Call (.Name "set" p2) [a] [] q1] [] pos) (tE p (.bi .sortSet (.cons x .nil))) := by
  have hu := ok.un
  have h1 := pe_callTy (p := p2) (pos := q1) (cr_setOfT ok.cal (by omega)) (gl_of ok.sc hg2) (blt_of ok (by decide)) PyProof.Rows.boot_set (pa_cons ha pa_nil (star_of hx [] X.env)) (by decide) (by decide) (star_of hx [] X.env) rfl
  exact PE.imp (pe_callB (p := p1) (pos := pos) (c_sortedU ok.cal (by omega)) (gl_of ok.sc hg) (blt_of ok (by decide)) (show bootBuiltins "sorted" = some (.builtin "sorted") by first | rfl | exact PyProof.Rows.boot_sorted) (pa_cons h1 pa_nil rfl) (by decide) (by decide) rfl rfl) fun σ H Q q => (bi1 q).mono fun v H' s ⟨A, d, tr, hr, q⟩ => sortSet_use tr hr q
/-- a built-in of one argument -/
theorem l_bi1 {f : Str} {b : Bi} {id : String} {a : Expr} {x : E} {p0 pos : Pos} (ok : OkX g k cm sc X p) (hg : glB sc f = true) (hf : f ∈ biNames) (hv : bootBuiltins f = some (.builtin id)) (hn : f ≠ "__name__") (hd : (f == ("__debug__" : Str)) = false)
    (hc : CallR X (.builtin id) (rB1 b)) (hx : cE g n cm sc a = some x) (ha : PE X a (tE p x)) : PE X (.Call (.Name f p0) [a] [] pos) (tE p (.bi b (.cons x .nil))) :=
  PE.imp (pe_callB hc (gl_of ok.sc hg) (blt_of ok hf) hv (pa_cons ha pa_nil (star_of hx [] X.env)) hn hd (star_of hx [] X.env) rfl) fun σ H Q q => (bi1 q).mono fun v H' s ⟨A, d, tr, hr, q⟩ => ⟨A, d, v, rfl, tr, hr, q⟩
theorem l_ty1 {f : Str} {b : Bi} {T : String} {a : Expr} {x : E} {p0 pos : Pos} (ok : OkX g k cm sc X p) (hg : glB sc f = true) (hf : f ∈ biNames) (hv : bootBuiltins f = some (.type T)) (hn : f ≠ "__name__") (hd : (f == ("__debug__" : Str)) = false)
    (hc : CallR X (.type T) (rB1 b)) (hx : cE g n cm sc a = some x) (ha : PE X a (tE p x)) : PE X (.Call (.Name f p0) [a] [] pos) (tE p (.bi b (.cons x .nil))) :=
  PE.imp (pe_callTy hc (gl_of ok.sc hg) (blt_of ok hf) hv (pa_cons ha pa_nil (star_of hx [] X.env)) hn hd (star_of hx [] X.env) rfl) fun σ H Q q => (bi1 q).mono fun v H' s ⟨A, d, tr, hr, q⟩ => ⟨A, d, v, rfl, tr, hr, q⟩
theorem l_bi2 {f : Str} {b : Bi} {id : String} {a c : Expr} {x y : E} {p0 pos : Pos} (ok : OkX g k cm sc X p) (hg : glB sc f = true) (hf : f ∈ biNames) (hv : bootBuiltins f = some (.builtin id)) (hn : f ≠ "__name__") (hd : (f == ("__debug__" : Str)) = false)
    (hc : CallR X (.builtin id) (rB2 b)) (hx : cE g n cm sc a = some x) (hy : cE g n cm sc c = some y) (ha : PE X a (tE p x)) (hb : PE X c (tE p y)) : PE X (.Call (.Name f p0) [a, c] [] pos) (tE p (.bi b (.cons x (.cons y .nil)))) := by
  refine PE.imp (pe_callB hc (gl_of ok.sc hg) (blt_of ok hf) hv (pa_cons ha (pa_cons hb pa_nil (star_of hy [] X.env)) (star_of hx [c] X.env)) hn hd (star_of hx [c] X.env) ?_) fun σ H Q q => (bi2 q).mono fun v H' s q2 => q2.mono fun u H2 s2 ⟨A, d, e, tr, hr, he, q⟩ => ⟨A, d, e, v, u, rfl, tr, hr, he, q⟩
  rw [star_of hy [] X.env]; rfl
end
def gNs : List Nat → TGs
  | [] => gNil
  | i :: is => gCons (gName i) (gNs is)
/-- (a, b, ..) = a tuple or a list of that length -/
def gTL (K : PySem.W.Frag) (n : Nat) (t : TGs) : TG := fun v σ H Q => ∃ a xs, v = .ref a ∧ (SqT K H a xs ∨ SqL K H a xs) ∧ xs.length = n ∧ t xs σ H Q
def gT (K : PySem.W.Frag) : T → TG
  | .n i => gName i
  | .t is => gTL K is.length (gNs is)
theorem pg_TL {X : Cx} {es : List Expr} {k : Nat} {t : TGs} {n : Nat} {pos : Pos} (hc : X.calm = true) (h : PGs X es t)
    (hn : (assignEach es X.env).length = n) (hst : (assignEach es X.env).findIdx? (·.1) = none) : PG X (.Tuple es k pos) (gTL X.K n t) := by
  refine ⟨fun pins s σ H v u Q I r hw => ?_⟩
  obtain ⟨a, xs, e1, hq, hl, hw⟩ := hw
  rcases hq with hq | hq
  · exact (pg_tup hc h hn hst).run pins s σ H v u Q I r ⟨a, xs, e1, hq, hl, hw⟩
  · exact (pg_unl hc h hn hst).run pins s σ H v u Q I r ⟨a, xs, e1, hq, hl, hw⟩
def StOk (X : Cx) (sc : Scope) : Prop := ∀ x, locB sc x = true → Loc X.env.scope x ∧ (X.fn x = true ∨ X.env.scope.names.lookup x = some .local)
theorem cT_name {g : G} {X : Cx} {sc : Scope} {x : Str} {i : Nat} {pos : Pos} (hN : X.N = g.N) (nd : g.N.Nodup) (st : StOk X sc) (h : ix? x g.N 0 = some i) (hl : locB sc x = true) : PG X (.Name x pos) (gName i) := by
  obtain ⟨h1, h2⟩ := st x hl
  exact pg_name (by rw [hN]; exact nd) (by rw [hN]; exact ix?_zero h) h1 h2
theorem cT_names {g : G} {X : Cx} {sc : Scope} (hN : X.N = g.N) (nd : g.N.Nodup) (st : StOk X sc) : ∀ {es : List Expr} {is : List Nat}, (es.mapM fun (e : PySem.Expr) => match e with
    | .Name x _ => match ix? x g.N 0 with
      | some i => if locB sc x then some i else none
      | none => none
    | _ => none) = some is → PGs X es (gNs is) ∧ es.length = is.length ∧ (assignEach es X.env).length = es.length ∧ (assignEach es X.env).findIdx? (·.1) = none
  | [], is, h => by
    simp at h; subst h
    exact ⟨pgs_nil, rfl, rfl, rfl⟩
  | e :: es, is, h => by
    simp only [List.mapM_cons, Option.bind_eq_bind, Option.bind_eq_some_iff, Option.pure_def, Option.some.injEq] at h
    obtain ⟨i, h1, is', h2, rfl⟩ := h
    obtain ⟨g1, g2, g3, g4⟩ := cT_names hN nd st h2
    split at h1
    · split at h1
      · split at h1
        · rename_i hi hl
          cases h1
          exact ⟨pgs_cons (cT_name hN nd st hi hl) g1, by simp [g2], by simp [assignEach, g3], by simp [assignEach, List.findIdx?_cons, g4]⟩
        · cases h1
      · cases h1
    · cases h1
theorem cT_ok {g : G} {X : Cx} {sc : Scope} {t : Expr} {tt : T} (hN : X.N = g.N) (nd : g.N.Nodup) (hc : X.calm = true ∨ ∃ i, tt = .n i) (st : StOk X sc) (h : cT g sc t = some tt) : PG X t (gT X.K tt) := by
  unfold cT at h
  split at h
  · split at h
    · split at h
      · rename_i hi hl
        cases h
        exact cT_name hN nd st hi hl
      · cases h
    · cases h
  · simp only [Option.map_eq_some_iff] at h
    obtain ⟨is, h, rfl⟩ := h
    obtain ⟨g1, g2, g3, g4⟩ := cT_names hN nd st h
    rcases hc with hc | ⟨i, e⟩
    · rw [show gT X.K (.t is) = gTL X.K is.length (gNs is) from rfl, ← g2]
      exact pg_TL hc g1 g3 g4
    · cases e
  · cases h
theorem ix?_lt {x : Str} {N : List Str} {i : Nat} (h : ix? x N 0 = some i) : i < N.length := (List.getElem?_eq_some_iff.mp (ix?_zero h)).1
theorem cT_lts {g : G} {sc : Scope} : ∀ {es : List Expr} {is : List Nat}, (es.mapM fun (e : PySem.Expr) => match e with
    | .Name x _ => match ix? x g.N 0 with
      | some i => if locB sc x then some i else none
      | none => none
    | _ => none) = some is → ∀ i ∈ is, i < g.N.length
  | [], is, h => by
    simp at h; subst h
    intro j hj; cases hj
  | e :: es, is, h => by
    simp only [List.mapM_cons, Option.bind_eq_bind, Option.bind_eq_some_iff, Option.pure_def, Option.some.injEq] at h
    obtain ⟨i, h1, is', h2, rfl⟩ := h
    intro j hj
    rcases List.mem_cons.mp hj with rfl | hj
    · split at h1
      · split at h1
        · split at h1
          · rename_i hi hl
            cases h1
            exact ix?_lt hi
          · cases h1
        · cases h1
      · cases h1
    · exact cT_lts h2 j hj
theorem cT_lt {g : G} {sc : Scope} {t : Expr} {tt : T} (h : cT g sc t = some tt) : ∀ i ∈ tt.ids, i < g.N.length := by
  unfold cT at h
  split at h
  · split at h
    · split at h
      · rename_i hi hl
        cases h
        intro j hj
        simp [T.ids] at hj
        subst hj
        exact ix?_lt hi
      · cases h
    · cases h
  · simp only [Option.map_eq_some_iff] at h
    obtain ⟨is, h, rfl⟩ := h
    exact cT_lts h
  · cases h
theorem geti_out : ∀ {env : Env} {i : Nat}, ¬ i < env.length → geti env i = .u
  | [], _, _ => rfl
  | s :: r, 0, h => by simp at h
  | s :: r, i + 1, h => geti_out (env := r) (by simpa using h)
theorem setsAll_len : ∀ {is : List Nat} {ds : List D} {env env1 : Env}, setsAll env is ds = some env1 → ds.length = is.length
  | [], [], _, _, _ => rfl
  | i :: is, d :: ds, env, _, h => by
    have h : setsAll (sets env i (.f d)) is ds = some _ := h
    simp [setsAll_len h]
  | [], _ :: _, _, _, h => by simp [setsAll] at h
  | _ :: _, [], _, _, h => by simp [setsAll] at h
theorem geti_sets : ∀ (env : Env) (i j : Nat) (x : Sl), geti (sets env i x) j = if i = j ∧ i < env.length then x else geti env j
  | [], i, j, x => by simp [sets, geti]
  | s :: r, 0, 0, x => by simp [sets, geti]
  | s :: r, 0, j + 1, x => by simp [sets, geti]
  | s :: r, i + 1, 0, x => by simp [sets, geti]
  | s :: r, i + 1, j + 1, x => by
    simp only [sets, geti, geti_sets r i j x, List.length_cons, Nat.add_right_cancel_iff, Nat.add_lt_add_iff_right]
theorem sets_length : ∀ (env : Env) (i : Nat) (x : Sl), (sets env i x).length = env.length
  | [], _, _ => rfl
  | _ :: _, 0, _ => rfl
  | _ :: r, i + 1, x => by simp [sets, sets_length r i x]
/-- a store of a value that is shared -/
theorem store_f {S : List Nat} {sx : Option (Nat × Str × Addr)} {A : Addr → Prop} {env : Env} {σ : L2.St} {H : Hp} {i : Nat} {v : V} {d : D} (hi : i < σ.length) (r : Rp A H v d) (h : RR S A env σ H) (hx : XS sx env σ) : RR S A (sets env i (.f d)) (σ.set i (some v)) H ∧ XS sx (sets env i (.f d)) (σ.set i (some v)) := by
  constructor
  · intro j hj e he
    rw [geti_sets] at he
    by_cases c : i = j
    · subst c
      by_cases c2 : i < env.length
      · simp only [c2, and_self, if_true, rdS] at he
        cases he
        exact ⟨v, by rw [List.getElem?_set_self hi], r⟩
      · simp only [c2, and_false, if_false] at he
        rw [geti_out c2] at he; cases he
    · simp only [c, false_and, if_false] at he
      rw [List.getElem?_set_ne c]
      exact h j hj e he
  · intro j c he
    rw [geti_sets] at he
    by_cases c1 : i = j
    · subst c1
      by_cases c2 : i < env.length
      · simp [c2] at he
      · simp only [c2, and_false, if_false] at he
        rw [geti_out c2] at he; cases he
    · simp only [c1, false_and, if_false] at he
      rw [List.getElem?_set_ne c1]
      exact hx j c he
theorem gNs_ok {S : List Nat} {sx : Option (Nat × Str × Addr)} {A : Addr → Prop} {H : Hp} : ∀ {is : List Nat} {ds : List D} {vs : List V} {env env1 : Env} {σ : L2.St}, setsAll env is ds = some env1 → (∀ i ∈ is, i < σ.length) → RpA A H vs ds → RR S A env σ H → XS sx env σ →
    gNs is vs σ H fun σ2 H2 => H2 = H ∧ σ2.length = σ.length ∧ RR S A env1 σ2 H ∧ XS sx env1 σ2 ∧ ∀ j, j ∉ is → σ2[j]? = σ[j]?
  | [], [], _, env, env1, σ, h, _, .nil, r, x => by
    cases h
    exact ⟨rfl, rfl, rfl, r, x, fun _ _ => rfl⟩
  | i :: is, d :: ds, _, env, env1, σ, h, hi, .cons (v := v) hv hvs, r, x => by
    have h : setsAll (sets env i (.f d)) is ds = some env1 := h
    have hi0 := hi i List.mem_cons_self
    obtain ⟨r2, x2⟩ := store_f hi0 hv r x
    refine ⟨v, _, rfl, ?_⟩
    have := gNs_ok (σ := σ.set i (some v)) h (fun j hj => by rw [List.length_set]; exact hi j (List.mem_cons_of_mem _ hj)) hvs r2 x2
    refine gNs_mono is this fun σ2 H2 ⟨e1, e2, e3, e4, e5⟩ => ⟨e1, by rw [e2, List.length_set], e3, e4, fun j hj => ?_⟩
    rw [e5 j (fun q => hj (List.mem_cons_of_mem _ q)), List.getElem?_set_ne (fun q => hj (by rw [q]; exact List.mem_cons_self))]
  | [], _ :: _, _, _, _, _, h, _, _, _, _ => by simp [setsAll] at h
  | _ :: _, [], _, _, _, _, h, _, _, _, _ => by simp [setsAll] at h
where
  gNs_mono : ∀ (is : List Nat) {vs : List V} {σ : L2.St} {H : Hp} {Q Q' : L2.St → Hp → Prop}, gNs is vs σ H Q → (∀ σ2 H2, Q σ2 H2 → Q' σ2 H2) → gNs is vs σ H Q'
    | [], _, _, _, _, _, ⟨e, q⟩, m => ⟨e, m _ _ q⟩
    | i :: is, _, _, _, _, _, ⟨v, r, e, q⟩, m => ⟨v, r, e, gNs_mono is q m⟩
theorem gT_ok {K : PySem.W.Frag} {S : List Nat} {sx : Option (Nat × Str × Addr)} {A : Addr → Prop} {H : Hp} {tt : T} {d : D} {v : V} {env env1 : Env} {σ : L2.St} (h : asgT tt d env = some env1) (hi : ∀ i ∈ tt.ids, i < σ.length) (hv : Rp A H v d) (r : RR S A env σ H) (x : XS sx env σ) :
    gT K tt v σ H fun σ2 H2 => H2 = H ∧ σ2.length = σ.length ∧ RR S A env1 σ2 H ∧ XS sx env1 σ2 ∧ ∀ j, j ∉ tt.ids → σ2[j]? = σ[j]? := by
  cases tt with
  | n i =>
    cases h
    obtain ⟨r2, x2⟩ := store_f (hi i (by simp [T.ids])) hv r x
    exact ⟨rfl, List.length_set, r2, x2, fun j hj => List.getElem?_set_ne fun q => hj (by simp [T.ids, q])⟩
  | t is =>
    cases hv with
    | @tup a xs ds n ht z ra =>
      have h : setsAll env is ds = some env1 := h
      have hl : xs.length = is.length := by
        rw [ra.length]
        exact setsAll_len h
      exact ⟨a, xs, rfl, .inl ht.sq, hl, gNs_ok h hi ra r x⟩
    | @lst a xs ds n ht z ra =>
      have h : setsAll env is ds = some env1 := h
      have hl : xs.length = is.length := by
        rw [ra.length]
        exact setsAll_len h
      exact ⟨a, xs, rfl, .inr (.inl ht), hl, gNs_ok h hi ra r x⟩
    | _ => cases h
theorem gT_mono {K : PySem.W.Frag} {tt : T} {v : V} {σ : L2.St} {H : Hp} {Q Q' : L2.St → Hp → Prop} (h : gT K tt v σ H Q) (m : ∀ σ2 H2, Q σ2 H2 → Q' σ2 H2) : gT K tt v σ H Q' := by
  cases tt with
  | n i => exact m _ _ h
  | t is =>
    obtain ⟨a, xs, e1, e2, e3, q⟩ := h
    exact ⟨a, xs, e1, e2, e3, gNs_ok.gNs_mono is q m⟩
theorem getElem?_wipe {σ : L2.St} : ∀ {vs : List Nat} {j : Nat}, j ∈ vs → j < σ.length → (wipe σ vs)[j]? = some none
  | [], _, h, _ => by cases h
  | v :: vs, j, h, hl => by
    unfold wipe
    by_cases c : v = j
    · subst c
      rw [List.getElem?_set_self (by rw [wipe_length]; exact hl)]
    · rw [List.getElem?_set_ne c]
      exact getElem?_wipe ((List.mem_cons.mp h).resolve_left (fun e => c e.symm)) hl
theorem wipe_eq {σ σ2 : L2.St} {vs : List Nat} (hl : σ2.length = σ.length) (h : ∀ j, j ∉ vs → σ2[j]? = σ[j]?) : wipe σ2 vs = wipe σ vs := by
  apply List.ext_getElem?
  intro j
  by_cases c : j ∈ vs
  · by_cases c2 : j < σ.length
    · rw [getElem?_wipe c c2, getElem?_wipe c (by rw [hl]; exact c2)]
    · rw [List.getElem?_eq_none (by rw [wipe_length]; omega), List.getElem?_eq_none (by rw [wipe_length]; omega)]
  · rw [wipe_out c, wipe_out c, h j c]
theorem geti_wipeS {env : Env} : ∀ {vs : List Nat} {j : Nat}, geti (wipeS env vs) j = if j ∈ vs then .u else geti env j
  | [], j => by simp [wipeS]
  | v :: vs, j => by
    unfold wipeS
    rw [geti_sets, geti_wipeS]
    by_cases c : v = j
    · subst c
      by_cases c2 : v < (wipeS env vs).length
      · simp [c2]
      · have : geti (wipeS env vs) v = .u := geti_out c2
        rw [geti_wipeS] at this
        simp [c2]
        intro h
        simpa [h] using this
    · by_cases c3 : j ∈ vs
      · simp [c, c3]
      · simp [c, c3, Ne.symm c]
theorem RpA.upd {A : Addr → Prop} {H : Hp} {D' : Addr} {o : HO} (hA : A D') {vs : List V} {ds : List D} (h : RpA A H vs ds) : RpA A (upd H D' o) vs ds :=
  RpA.keep (A := A) (fun a u e n => by rw [upd_ne (fun q => n (by rw [q]; exact hA))]; exact e) (fun a q => .inl q) _ _ h
def Pm.blk (p : Pm) : Pm := { p with W := fun _ _ _ _ => False, sx := none }
theorem OkX.blk {g : G} {k : Nat} {sc scope : Scope} {X : Cx} {p : Pm} (ok : OkX g k true sc X p) (s : Shared) (H : Hp) (C : Addr) (cl : List (Str × Addr)) (fp : List Addr) :
    OkX g k true (relS scope sc) (X.blk s H scope (compEnvC scope cl C X.env) fp) p.blk where
  hN := ok.hN
  nl := ok.nl
  nd := ok.nd
  sc := by
    show relS scope X.env.scope = _
    rw [ok.sc]
  cal := ok.cal
  room := ok.room
  un := ok.un
  pn := ok.pn
  lk := ok.lk
  tk := takes0
  nosx := fun _ => rfl
  sx := fun i c a h => by cases h
theorem stOk_blk {X : Cx} {scope : Scope} (s : Shared) (H : Hp) (C : Addr) (cl : List (Str × Addr)) (fp : List Addr) : StOk (X.blk s H scope (compEnvC scope cl C X.env) fp) scope := by
  intro x h
  unfold locB at h
  split at h
  · rename_i e
    have q := lookup_relS_keep (sc := X.env.scope) (by decide : NameKind.local ≠ .free) e
    exact ⟨.inl q, .inr q⟩
  · rename_i e
    have q := lookup_relS_keep (sc := X.env.scope) (by decide : NameKind.cell ≠ .free) e
    refine ⟨.inr q, .inl ?_⟩
    show (scope.names.lookup x == some .cell) = true
    rw [e]; rfl
  · cases h
theorem compL_cons {f : D → R (Option D)} {d : D} {r : List D} {l : List D} (h : compL f (d :: r) = .ok l) : (∃ x l', f d = .ok (some x) ∧ compL f r = .ok l' ∧ l = x :: l') ∨ (f d = .ok none ∧ compL f r = .ok l) := by
  simp only [compL] at h
  split at h
  · rename_i x e
    split at h
    · rename_i l' e2
      cases h
      exact .inl ⟨x, l', e, e2, rfl⟩
    · cases h
  · rename_i e
    exact .inr ⟨e, h⟩
  · cases h
theorem compL_nx {f : D → R (Option D)} {c : Str} : ∀ {l : List D}, compL f l ≠ .ex c
  | [] => by intro h; cases h
  | d :: r => by
    intro h
    simp only [compL] at h
    split at h
    · split at h <;> cases h
    · exact compL_nx h
    · cases h
set_option maxHeartbeats 1000000 in
/-! ### new lists -/
def TopNew (A : Addr → Prop) (H H' : Hp) (v : V) (d : D) : Prop := (∀ ds, d = .list ds → ∃ a xs, v = .ref a ∧ H a = none ∧ H' a = some (.lst xs) ∧ xs.length ≤ sizeLine ∧ RpA (fun b => A b ∨ b = a) H' xs ds) ∧
  ∀ kvs, d = .dict kvs → ∃ a, v = .ref a ∧ H a = none ∧ ((∃ ks, H' a = some (.dK ks) ∧ ks.length ≤ sizeLine ∧ RpK (fun b => A b ∨ b = a) H' ks kvs) ∨ ∃ ks, H' a = some (dTX a ks) ∧ ks ≠ [] ∧ RpT (fun b => A b ∨ b = a) H' ks kvs)
def tEf (p : Pm) (e : E) : TE := fun σ H Q => ∃ A env, Pre p e.vars A env σ H ∧ After p σ H (evE p.Φ e env) (fun d H' => ∀ v, Rp A H' v d → TopNew A H H' v d → Q v H')
theorem tE.f {p : Pm} {e : E} {σ : L2.St} {H : Hp} {Q : VK} (h : tE p e σ H Q) : tEf p e σ H Q := by
  obtain ⟨A, env, pre, q⟩ := h
  exact ⟨A, env, pre, q.mono fun d H' s q v hv _ => q v hv⟩
theorem rpA_one {A : Addr → Prop} {H : Hp} {a : Addr} {o : HO} {xs : List V} {ds : List D} (h : H a = none) (r : RpA A H xs ds) : RpA (fun b => A b ∨ b = a) (upd H a o) xs ds :=
  RpA.keep (Keep.of (same_upd h)) (fun b z => by
    rcases z with z | z
    · exact .inl z
    · exact .inr (by rw [z]; exact h)) _ _ r
theorem topNew {A : Addr → Prop} {H H1 : Hp} {a : Addr} {xs : List V} {ds : List D} (s : Same H H1) (h : H1 a = none) (z : xs.length ≤ sizeLine) (r : RpA A H1 xs ds) : TopNew A H (upd H1 a (.lst xs)) (.ref a) (.list ds) := by
  refine ⟨fun ds' e => ?_, fun _ e => by cases e⟩
  cases e
  exact ⟨a, xs, rfl, s.free h, upd_same, z, rpA_one h r⟩
theorem topNewD {A : Addr → Prop} {H H1 : Hp} {a : Addr} {ks : List (Key × V)} {kvs : List (D × D)} (s : Same H H1) (h : H a = none) (e : H1 a = some (.dK ks)) (z : ks.length ≤ sizeLine) (r : RpK (fun b => A b ∨ b = a) H1 ks kvs) : TopNew A H H1 (.ref a) (.dict kvs) := by
  refine ⟨fun _ e => (by cases e), fun ds' e2 => ?_⟩
  cases e2
  exact ⟨a, rfl, h, .inl ⟨ks, e, z, r⟩⟩
theorem topNewT {A : Addr → Prop} {H H1 : Hp} {a : Addr} {ks : List TK} {kvs : List (D × D)} (h : H a = none) (e : H1 a = some (dTX a ks)) (z : ks ≠ []) (r : RpT (fun b => A b ∨ b = a) H1 ks kvs) : TopNew A H H1 (.ref a) (.dict kvs) := by
  refine ⟨fun _ e => (by cases e), fun ds' e2 => ?_⟩
  cases e2
  exact ⟨a, rfl, h, .inr ⟨ks, e, z, r⟩⟩
section
variable {X : Cx} {p : Pm} {pos : Pos}
theorem l_dsp0 : PE X (.Dict [] [] pos) (tEf p (.dsp .nil)) := PE.imp pe_dnewK fun σ H Q ⟨A, env, pre, q⟩ d hd => by
  simp only [evE, evs] at q
  have q : After p σ H (.ok (.dict [])) (fun d H' => ∀ v, Rp A H' v d → TopNew A H H' v d → Q v H') := q
  exact q (upd H d (.dK [])) (same_upd hd) _ (.dct (pre.tr.new hd) (.inl upd_same) .nil) (topNewD (same_upd hd) hd upd_same (Nat.zero_le _) .nil)
theorem l_dsp1 {k v : Expr} {x y : E} (hk : PE X k (tE p x)) (hv : PE X v (tE p y)) : PE X (.Dict [some k] [v] pos) (tEf p (.dsp (.cons x (.cons y .nil)))) := by
  refine PE.imp (pe_disp (pps_cons hk hv pps_nil) (by rfl) (by rfl) (fun z => by cases z) (by show 1 ≤ 15; decide)) fun σ H Q ⟨A, env, pre, q⟩ d hd => ?_
  have hs := same_upd (o := .dK []) hd
  simp only [evE, evs] at q
  have avoid : ∀ {H1 : Hp}, Same H H1 → ∀ {w : V} {e : D}, Rp (fun b => A b ∨ b = d) H1 w e → Rp A H1 w e := fun s1 => Rp.less (fun a z => .inl z) _ _
  have pre2 : Pre p (x.vars ++ (y.vars ++ [])) (fun b => A b ∨ b = d) env σ (upd H d (.dK [])) := by
    refine ⟨fun a z => ?_, fun i hi e he => ?_, pre.xs, pre.len⟩
    · rcases z with z | z
      · exact (pre.tr.same hs) a z
      · rw [z, upd_same]; simp
    · obtain ⟨w, e1, e2⟩ := pre.rr i hi e he
      exact ⟨w, e1, Rp.keep (Keep.of hs) (fun b z => by
        rcases z with z | z
        · exact .inl z
        · exact .inr (by rw [z]; exact hd)) _ _ e2⟩
  refine ⟨_, env, pre2.left, ?_⟩
  cases e1 : evE p.Φ x env with
  | ex c => rw [e1] at q; exact fun H' s => q H' (hs.trans s)
  | st => rw [e1] at q; exact q
  | ok kx =>
    rw [e1] at q
    intro H1 s1 w hw
    refine ⟨_, env, (pre2.right.left).same s1, ?_⟩
    cases e2 : evE p.Φ y env with
    | ex c => rw [e2] at q; exact fun H' s => q H' (hs.trans (s1.trans s))
    | st => rw [e2] at q; exact q
    | ok kv =>
      rw [e2] at q
      intro H2 s2 u hu
      have sH : Same H H2 := hs.trans (s1.trans s2)
      have e0 : H2 d = some (.dK []) := s2 _ _ (s1 _ _ upd_same)
      have q : After p σ H (match pairsD [kx, kv] with | some kvs => R.ok (PyData.dict (kvs.foldl (fun acc p => putD p.1 p.2 acc) [])) | none => .st) (fun d H' => ∀ v, Rp A H' v d → TopNew A H H' v d → Q v H') := q
      simp only [pairsD] at q
      by_cases c : isKey kx = true
      · rw [if_pos c] at q
        obtain ⟨kk, rfl, rfl⟩ := isKey_of hw c
        have q : After p σ H (.ok (.dict [(keyD kk, kv)])) (fun d H' => ∀ v, Rp A H' v d → TopNew A H H' v d → Q v H') := q
        have su : Same H2 (upd H2 d (.dK [(kk, u)])) ∨ True := .inr trivial
        have sU : Same H (upd H2 d (.dK [(kk, u)])) := fun b o e => by
          rw [upd_ne (fun z => by rw [z, hd] at e; cases e)]
          exact sH b o e
        have hu2 : Rp (fun b => A b ∨ b = d) (upd H2 d (.dK [(kk, u)])) u kv := Rp.keep (A := fun b => A b ∨ b = d) (fun b o e n => by
          rw [upd_ne (fun z => n (.inr z))]
          exact e) (fun a z => .inl z) _ _ hu
        exact ⟨e0, [(kk, u)], rfl, by show 1 ≤ 15; decide, q _ sU (.ref d) (.dct (pre.tr.new hd) (.inl upd_same) (.cons (avoid sU hu2) .nil)) (topNewD sU hd upd_same (by show 1 ≤ sizeLine; decide) (.cons hu2 .nil))⟩
      · rw [if_neg c] at q; exact q.elim
end
theorem i_lc {g : G} {k : Nat} {sc scope : Scope} {X : Cx} {p : Pm} {t : Expr} {tt : T} {i : I} {c : Oe} {x : E} (ok : OkX g k true sc X p)
    (htt : cT g scope t = some tt) (hids : (tt.ids.all fun j => ((ownOf g.N scope.names).map (·.2)).contains j) = true) :
    ∀ σ H Q, tEf p (.lc ((ownOf g.N scope.names).map (·.2)) tt i c x) σ H Q → tLc (tI p i) (gT X.K tt) (tF p.blk c) (tE p.blk x) ((ownOf g.N scope.names).map (·.2)) σ H Q := by
  intro σ H Q q
  generalize (ownOf g.N scope.names).map (·.2) = own at hids q
  obtain ⟨A, env, pre, q⟩ := q
  simp only [evE] at q
  refine ⟨A, env, pre.left, q.bind.mono fun ds H1 s1 q2 J runs hz D' hD => ?_⟩
  generalize hf : (fun d => match asgT tt d (wipeS env own) with
    | none => R.st
    | some env1 => match evT p.Φ c env1 with
      | .ok true => match evE p.Φ x env1 with
        | .ok x => .ok (some x)
        | _ => .st
      | .ok false => .ok none
      | _ => .st) = f at q2
  cases hl : compL f ds with
  | ex c => exact absurd hl compL_nx
  | st => rw [hl] at q2; exact q2.elim
  | ok l =>
    rw [hl] at q2
    have q3 : ∀ H', Same H1 H' → ∀ v, Rp A H' v (.list l) → TopNew A H H' v (.list l) → Q v H' := q2
    have hDH : H D' = none := s1.free hD
    have nAD : ¬ A D' := fun z => pre.tr D' z hDH
    have nosx : ∀ j c, geti env j ≠ .x c := fun j c e => by
      obtain ⟨a, e2, _⟩ := pre.xs j c e
      rw [ok.nosx rfl] at e2
      cases e2
    refine ⟨fun j m Hc => m = ds.length - j ∧ j ≤ ds.length ∧ Same H1 Hc ∧ ∃ acc accD rest, Hc D' = some (.lst acc) ∧ acc.length ≤ j ∧ RpA (fun a => A a ∨ a = D') Hc acc accD ∧ compL f (ds.drop j) = .ok rest ∧ accD ++ rest = l,
      ⟨ds.length, by simp, Nat.zero_le _, same_upd hD, [], [], l, upd_same, Nat.le_refl _, .nil, by simpa using hl, rfl⟩, ?_⟩
    rintro j m Hc ⟨rfl, hj, sc1, acc, accD, rest, ha, hal, hra, hcl, hre⟩
    by_cases hlt : j < ds.length
    · refine .inr ⟨runs.go j Hc (Keep.of sc1) hlt, fun Hc => (j + 1) ≤ ds.length ∧ Same H1 Hc ∧ ∃ acc accD rest, Hc D' = some (.lst acc) ∧ acc.length ≤ j + 1 ∧ RpA (fun a => A a ∨ a = D') Hc acc accD ∧ compL f (ds.drop (j + 1)) = .ok rest ∧ accD ++ rest = l,
        fun H' h => ⟨ds.length - (j + 1), by omega, rfl, h⟩, fun y H' hy => ?_⟩
      have tr' : Trk (fun a => A a ∨ a = D') Hc := fun a z => by
        rcases z with z | z
        · exact ((pre.tr.same s1).same sc1) a z
        · rw [z, ha]; simp
      obtain ⟨d, hd, s2, hrp⟩ := runs.yld j Hc y H' (fun a => A a ∨ a = D') hlt (Keep.of sc1) tr' (fun a z => by
        rcases z with z | z
        · exact .inl (aI z)
        · exact .inr (by rw [z]; exact hD)) hy
      have hdr : ds.drop j = d :: ds.drop (j + 1) := by
        have e := List.drop_eq_getElem_cons hlt
        rw [List.getElem?_eq_getElem hlt] at hd
        rw [e, Option.some.inj hd]
      rw [hdr] at hcl
      have sH : Same H H' := s1.trans (sc1.trans s2)
      -- the target
      have hfd : f d ≠ .st := by
        rcases compL_cons hcl with ⟨_, _, e, _⟩ | ⟨e, _⟩ <;> rw [e] <;> intro z <;> cases z
      have hfd' := congrFun hf d
      cases has : asgT tt d (wipeS env own) with
      | none => simp only [has] at hfd'; exact absurd hfd'.symm hfd
      | some env1 =>
      simp only [has] at hfd'
      have wl : (wipe σ own).length = σ.length := wipe_length σ own
      have rr0 : RR (c.vars ++ x.vars) (fun a => A a ∨ a = D') (wipeS env own) (wipe σ own) H' := by
        intro a haS e hae
        rw [geti_wipeS] at hae
        by_cases hin : a ∈ own
        · simp [hin, rdS] at hae
        · simp only [hin, if_false] at hae
          obtain ⟨v, e1, e2⟩ := pre.rr a (by simp only [E.vars]; exact List.mem_append_right _ haS) e hae
          exact ⟨v, by rw [wipe_out hin]; exact e1, Rp.keep (Keep.of sH) (fun b z => by
            rcases z with z | z
            · exact .inl z
            · exact .inr (by rw [z]; exact hDH)) e v e2⟩
      have xs0 : XS (none : Option (Nat × Str × Addr)) (wipeS env own) (wipe σ own) := by
        intro a c2 hac
        rw [geti_wipeS] at hac
        by_cases hin : a ∈ own
        · simp [hin] at hac
        · simp only [hin, if_false] at hac
          exact absurd hac (nosx a c2)
      have hlen : ∀ i ∈ tt.ids, i < (wipe σ own).length := fun i hi => by
        rw [wl, pre.len, ok.nl]
        exact cT_lt htt i hi
      have main := gT_ok (K := X.K) (S := c.vars ++ x.vars) has hlen hrp rr0 xs0
      refine gT_mono main fun σ2 H2 ⟨e1, e2, e3, e4, e5⟩ => ?_
      subst e1
      have hw : wipe σ2 own = wipe σ own := by
        refine wipe_eq (e2.trans wl) fun a hna => ?_
        rw [e5 a (fun z => hna (by simpa using List.all_eq_true.mp hids a z)), wipe_out hna]
      refine ⟨hw, ?_⟩
      have tr2 : Trk (fun a => A a ∨ a = D') H2 := tr'.same s2
      have pre2 : Pre p.blk (c.vars ++ x.vars) (fun a => A a ∨ a = D') env1 σ2 H2 := ⟨tr2, e3, e4, by rw [e2, wl]; exact pre.len⟩
      refine ⟨fun a => A a ∨ a = D', env1, pre2.left, ?_⟩
      have kp : ∀ {H3 : Hp} {o : HO}, Same H2 H3 → Same H1 (upd H3 D' o) := fun {H3 o} s3 b u e => by
        rw [upd_ne (ne_of_none e hD)]
        exact s3 b u (s2 b u (sc1 b u e))
      show After p.blk σ2 H2 (evT p.Φ c env1) _
      cases het : evT p.Φ c env1 with
      | ex c2 => simp only [het] at hfd'; exact absurd hfd'.symm hfd
      | st => simp only [het] at hfd'; exact absurd hfd'.symm hfd
      | ok b =>
        cases b with
        | false =>
          simp only [het] at hfd'
          rcases compL_cons hcl with ⟨_, _, e, _⟩ | ⟨e, hc2⟩
          · rw [← hfd'] at e; cases e
          intro H3 s3
          rw [if_neg (by decide)]
          exact ⟨hlt, sc1.trans (s2.trans s3), acc, accD, rest, (s2.trans s3) _ _ ha, Nat.le_succ_of_le hal, RpA.same (s2.trans s3) _ _ hra, hc2, hre⟩
        | true =>
          simp only [het] at hfd'
          intro H3 s3
          rw [if_pos rfl]
          refine ⟨fun a => A a ∨ a = D', env1, (pre2.same s3).right, ?_⟩
          show After p.blk σ2 H3 (evE p.Φ x env1) _
          cases hex : evE p.Φ x env1 with
          | ex c2 => simp only [hex] at hfd'; exact absurd hfd'.symm hfd
          | st => simp only [hex] at hfd'; exact absurd hfd'.symm hfd
          | ok z =>
            simp only [hex] at hfd'
            rcases compL_cons hcl with ⟨z', l', e, hc2, hrest⟩ | ⟨e, _⟩
            · rw [← hfd'] at e
              obtain rfl : z = z' := Option.some.inj (R.ok.inj e)
              intro H4 s4 v hv
              have s34 := s3.trans s4
              refine ⟨acc, (s2.trans s34) _ _ ha, by omega, hlt, kp s34, acc ++ [v], accD ++ [z], l', upd_same, by simp; omega, ?_, hc2, ?_⟩
              · exact RpA.upd (A := fun a => A a ∨ a = D') (.inr rfl) ((RpA.same (s2.trans s34) _ _ hra).append (.cons hv .nil))
              · rw [← hre, hrest, List.append_assoc]; rfl
            · rw [← hfd'] at e; cases e
    · have hj' : j = ds.length := by omega
      refine .inl ⟨runs.stop j Hc (Keep.of sc1) (by omega), ?_⟩
      rw [hj', List.drop_length] at hcl
      have hcl : rest = [] := (R.ok.inj hcl).symm
      subst hcl
      rw [List.append_nil] at hre
      subst hre
      exact q3 Hc sc1 _ (.lst nAD (.inl ha) (by omega) (RpA.less (fun a z => .inl z) _ _ hra)) ⟨fun ds e => (by
        cases e
        exact ⟨D', acc, rfl, hDH, ha, by omega, hra⟩), fun _ e => (by cases e)⟩
theorem l_lcF {g : G} {k : Nat} {sc scope : Scope} {X : Cx} {p : Pm} {elt t it : Expr} {ifs : List Expr} {pos : Pos} {tt : T} {i : I} {c : Oe} {x : E} (ok : OkX g k true sc X p)
    (hb : blkC g.N sc scope (ownOf g.N scope.names) = true) (hi : PI X t it (tI p i)) (htt : cT g scope t = some tt) (hids : (tt.ids.all fun j => ((ownOf g.N scope.names).map (·.2)).contains j) = true) (hfold : ∀ y, foldedSetIterable it X.env y = pure y)
    (ht : ∀ X', OkX g k true (relS scope sc) X' p.blk → PTs X' ifs (tF p.blk c)) (he : ∀ X', OkX g k true (relS scope sc) X' p.blk → PE X' elt (tE p.blk x)) :
    PE X (.ListComp elt [⟨t, it, ifs, 0⟩] scope pos) (tEf p (.lc ((ownOf g.N scope.names).map (·.2)) tt i c x)) := by
  have hnd : X.N.Nodup := by rw [ok.hN]; exact ok.nd
  have hblk : BlkOk X.N X.env.scope scope (ownOf g.N scope.names) := by rw [ok.hN, ok.sc]; exact blkOk_by hb
  exact PE.imp (pe_lc (g := gT X.K tt) ok.cal hnd hi hblk (fun s H C cl fp => cT_ok (X := X.blk s H scope (compEnvC scope cl C X.env) fp) ok.hN ok.nd (.inl ok.cal) (stOk_blk s H C cl fp) htt) (fun s H C cl fp => ht _ (ok.blk s H C cl fp)) (fun s H C cl fp => he _ (ok.blk s H C cl fp)) hfold) (i_lc ok htt hids)
theorem l_setLc {g : G} {k : Nat} {sc scope : Scope} {X : Cx} {p : Pm} {elt t it : Expr} {ifs : List Expr} {pos spos py : Pos} {y : Str} {iy : Nat} {tt : T} {i : I} {c : Oe} {x : E} (ok : OkX g k true sc X p)
    (hb : blkC g.N sc scope (ownOf g.N scope.names) = true) (hi : PI X t it (tI p i)) (htt : cT g scope t = some tt) (hids : (tt.ids.all fun j => ((ownOf g.N scope.names).map (·.2)).contains j) = true) (hfold : ∀ y, foldedSetIterable it X.env y = pure y)
    (ht : ∀ X', OkX g k true (relS scope sc) X' p.blk → PTs X' ifs (tF p.blk c)) (he : ∀ X', OkX g k true (relS scope sc) X' p.blk → PE X' elt (tE p.blk x))
    (hy : ix? y g.N 0 = some iy) (hyl : X.env.scope.names.lookup y = some .local) (hsw : swapsWith (.ListComp elt [⟨t, it, ifs, 0⟩] scope pos) (some (.Name y py)) spos.line X.env = pure true) :
    PS X (.Assign [.Name y py] (.ListComp elt [⟨t, it, ifs, 0⟩] scope pos) spos) (tAsg (tEf p (.lc ((ownOf g.N scope.names).map (·.2)) tt i c x)) (gName iy)) := by
  have hnd : X.N.Nodup := by rw [ok.hN]; exact ok.nd
  have hblk : BlkOk X.N X.env.scope scope (ownOf g.N scope.names) := by rw [ok.hN, ok.sc]; exact blkOk_by hb
  refine ⟨fun pins s σ H D I h => (ps_setLc (g := gT X.K tt) (tt := tF p.blk c) (te := tE p.blk x) (own := ownOf g.N scope.names) ok.cal hnd (by rw [ok.hN]; exact ix?_zero hy) hyl hsw hi hblk (fun s H C cl fp => cT_ok (X := X.blk s H scope (compEnvC scope cl C X.env) fp) ok.hN ok.nd (.inl ok.cal) (stOk_blk s H C cl fp) htt) (fun s H C cl fp => ht _ (ok.blk s H C cl fp)) (fun s H C cl fp => he _ (ok.blk s H C cl fp)) hfold).run pins s σ H D I (i_lc ok htt hids _ _ _ h)⟩
theorem l_lc {g : G} {k : Nat} {sc scope : Scope} {X : Cx} {p : Pm} {elt t it : Expr} {ifs : List Expr} {pos : Pos} {tt : T} {i : I} {c : Oe} {x : E} (ok : OkX g k true sc X p)
    (hb : blkC g.N sc scope (ownOf g.N scope.names) = true) (hi : PI X t it (tI p i)) (htt : cT g scope t = some tt) (hids : (tt.ids.all fun j => ((ownOf g.N scope.names).map (·.2)).contains j) = true) (hfold : ∀ y, foldedSetIterable it X.env y = pure y)
    (ht : ∀ X', OkX g k true (relS scope sc) X' p.blk → PTs X' ifs (tF p.blk c)) (he : ∀ X', OkX g k true (relS scope sc) X' p.blk → PE X' elt (tE p.blk x)) :
    PE X (.ListComp elt [⟨t, it, ifs, 0⟩] scope pos) (tE p (.lc ((ownOf g.N scope.names).map (·.2)) tt i c x)) := PE.imp (l_lcF ok hb hi htt hids hfold ht he) fun σ H Q q => q.f
theorem RpK.upd {A : Addr → Prop} {H : Hp} {a : Addr} {o : HO} {ks : List (Key × V)} {kvs : List (D × D)} (h : A a) (r : RpK A H ks kvs) : RpK A (upd H a o) ks kvs :=
  RpK.keep (A := A) (fun b u e n => by rw [upd_ne (fun q => n (by rw [q]; exact h))]; exact e) (fun b z => .inl z) _ _ r
def stepD (acc : List (D × D)) (p : D) : List (D × D) := match p with | .tuple [x, y] => putD x y acc | _ => acc
/-- a dict comprehension whose keys are of one kind -/
def evDc (Φ : Phi) (kf : D → Bool) (own : List Nat) (tt : T) (i : I) (kx x : E) (env : Env) : R D := (evI Φ i env).bind fun ds => (compL (fun d => match asgT tt d (wipeS env own) with
    | none => R.st
    | some env1 => match evE Φ kx env1 with
      | .ok x' => if kf x' = true then (match evE Φ x env1 with
        | .ok y => R.ok (some (PyData.tuple [x', y]))
        | _ => .st) else .st
      | _ => .st) ds).bind fun l => .ok (.dict (l.foldl stepD []))
theorem orR_bind {α β : Type} {a b : R α} {g : α → R β} {x y : R β} {Z : Prop} (hx : a.bind g = x) (hy : b.bind g = y) (hz : a = .st → Z) : (R.orR a b).bind g = x ∨ ((R.orR a b).bind g = y ∧ Z) := by
  cases a with
  | ok l => exact .inl hx
  | ex c => exact .inl hx
  | st => exact .inr ⟨hy, hz rfl⟩
theorem evE_dc (Φ : Phi) (own : List Nat) (tt : T) (i : I) (kx x : E) (env : Env) : evE Φ (.dc own tt i kx x) env = evDc Φ isKey own tt i kx x env ∨ (evE Φ (.dc own tt i kx x) env = evDc Φ isTKey own tt i kx x env ∧ ∀ ds, evI Φ i env = .ok ds → ds ≠ []) := by
  simp only [evE, evDc]
  cases hi : evI Φ i env with
  | ex c => exact .inl rfl
  | st => exact .inl rfl
  | ok ds =>
    refine orR_bind rfl rfl fun h ds' e z => ?_
    cases e
    subst z
    cases h
theorem After.eqn {α : Type} {p : Pm} {σ : L2.St} {H : Hp} {r : R α} {k : α → Hp → Prop} (h : After p σ H r k) : After p σ H r (fun a H' => r = .ok a ∧ k a H') := by
  cases r with
  | ok a => exact fun H' s => ⟨rfl, h H' s⟩
  | ex c => exact h
  | st => exact h
theorem RpT.upd {A : Addr → Prop} {H : Hp} {a : Addr} {o : HO} {ks : List TK} {kvs : List (D × D)} (h : A a) (r : RpT A H ks kvs) : RpT A (upd H a o) ks kvs :=
  RpT.keep (A := A) (fun b u e n => by rw [upd_ne (fun q => n (by rw [q]; exact h))]; exact e) (fun b z => .inl z) _ _ r
set_option maxHeartbeats 1000000 in
theorem i_dcK {g : G} {k : Nat} {sc scope : Scope} {X : Cx} {p : Pm} {t : Expr} {tt : T} {i : I} {kx x : E} (ok : OkX g k true sc X p)
    (htt : cT g scope t = some tt) (hids : (tt.ids.all fun j => ((ownOf g.N scope.names).map (·.2)).contains j) = true) :
    ∀ σ H Q, (∃ A env, Pre p (E.dc ((ownOf g.N scope.names).map (·.2)) tt i kx x).vars A env σ H ∧ After p σ H (evDc p.Φ isKey ((ownOf g.N scope.names).map (·.2)) tt i kx x env) (fun d H' => ∀ v, Rp A H' v d → TopNew A H H' v d → Q v H')) → tDc (tI p i) (gT X.K tt) (tF p.blk .no) (tE p.blk kx) (tE p.blk x) ((ownOf g.N scope.names).map (·.2)) σ H Q := by
  intro σ H Q q
  generalize (ownOf g.N scope.names).map (·.2) = own at hids q
  obtain ⟨A, env, pre, q⟩ := q
  unfold evDc at q
  refine ⟨A, env, pre.left, q.bind.mono fun ds H1 s1 q2 J runs hz D' hD => ?_⟩
  generalize hf : (fun d : D => match asgT tt d (wipeS env own) with
    | none => R.st
    | some env1 => match evE p.Φ kx env1 with
      | .ok x' => if isKey x' = true then (match evE p.Φ x env1 with
        | .ok y => R.ok (some (PyData.tuple [x', y]))
        | _ => .st) else .st
      | _ => .st) = f at q2
  cases hl : compL f ds with
  | ex c => exact absurd hl compL_nx
  | st => rw [hl] at q2; exact q2.elim
  | ok l =>
    rw [hl] at q2
    have q3 : ∀ H', Same H1 H' → ∀ v, Rp A H' v (.dict (l.foldl stepD [])) → TopNew A H H' v (.dict (l.foldl stepD [])) → Q v H' := q2
    have hDH : H D' = none := s1.free hD
    have nAD : ¬ A D' := fun z => pre.tr D' z hDH
    have nosx : ∀ j c, geti env j ≠ .x c := fun j c e => by
      obtain ⟨a, e2, _⟩ := pre.xs j c e
      rw [ok.nosx rfl] at e2
      cases e2
    refine ⟨fun j m Hc => m = ds.length - j ∧ j ≤ ds.length ∧ Same H1 Hc ∧ ∃ acc accD rest, Hc D' = some (.dK acc) ∧ acc.length ≤ j ∧ RpK (fun a => A a ∨ a = D') Hc acc accD ∧ compL f (ds.drop j) = .ok rest ∧ rest.foldl stepD accD = l.foldl stepD [],
      ⟨ds.length, by simp, Nat.zero_le _, same_upd hD, [], [], l, upd_same, Nat.le_refl _, .nil, by simpa using hl, rfl⟩, ?_⟩
    rintro j m Hc ⟨rfl, hj, sc1, acc, accD, rest, ha, hal, hra, hcl, hre⟩
    by_cases hlt : j < ds.length
    · refine .inr ⟨runs.go j Hc (Keep.of sc1) hlt, fun Hc => (j + 1) ≤ ds.length ∧ Same H1 Hc ∧ ∃ acc accD rest, Hc D' = some (.dK acc) ∧ acc.length ≤ j + 1 ∧ RpK (fun a => A a ∨ a = D') Hc acc accD ∧ compL f (ds.drop (j + 1)) = .ok rest ∧ rest.foldl stepD accD = l.foldl stepD [],
        fun H' h => ⟨ds.length - (j + 1), by omega, rfl, h⟩, fun y H' hy => ?_⟩
      have tr' : Trk (fun a => A a ∨ a = D') Hc := fun a z => by
        rcases z with z | z
        · exact ((pre.tr.same s1).same sc1) a z
        · rw [z, ha]; simp
      obtain ⟨d, hd, s2, hrp⟩ := runs.yld j Hc y H' (fun a => A a ∨ a = D') hlt (Keep.of sc1) tr' (fun a z => by
        rcases z with z | z
        · exact .inl (aI z)
        · exact .inr (by rw [z]; exact hD)) hy
      have hdr : ds.drop j = d :: ds.drop (j + 1) := by
        have e := List.drop_eq_getElem_cons hlt
        rw [List.getElem?_eq_getElem hlt] at hd
        rw [e, Option.some.inj hd]
      rw [hdr] at hcl
      have sH : Same H H' := s1.trans (sc1.trans s2)
      -- the target
      have hfd : f d ≠ .st := by
        rcases compL_cons hcl with ⟨_, _, e, _⟩ | ⟨e, _⟩ <;> rw [e] <;> intro z <;> cases z
      have hfd' := congrFun hf d
      cases has : asgT tt d (wipeS env own) with
      | none => simp only [has] at hfd'; exact absurd hfd'.symm hfd
      | some env1 =>
      simp only [has] at hfd'
      have wl : (wipe σ own).length = σ.length := wipe_length σ own
      have rr0 : RR (kx.vars ++ x.vars) (fun a => A a ∨ a = D') (wipeS env own) (wipe σ own) H' := by
        intro a haS e hae
        rw [geti_wipeS] at hae
        by_cases hin : a ∈ own
        · simp [hin, rdS] at hae
        · simp only [hin, if_false] at hae
          obtain ⟨v, e1, e2⟩ := pre.rr a (by simp only [E.vars]; exact List.mem_append_right _ haS) e hae
          exact ⟨v, by rw [wipe_out hin]; exact e1, Rp.keep (Keep.of sH) (fun b z => by
            rcases z with z | z
            · exact .inl z
            · exact .inr (by rw [z]; exact hDH)) e v e2⟩
      have xs0 : XS (none : Option (Nat × Str × Addr)) (wipeS env own) (wipe σ own) := by
        intro a c2 hac
        rw [geti_wipeS] at hac
        by_cases hin : a ∈ own
        · simp [hin] at hac
        · simp only [hin, if_false] at hac
          exact absurd hac (nosx a c2)
      have hlen : ∀ i ∈ tt.ids, i < (wipe σ own).length := fun i hi => by
        rw [wl, pre.len, ok.nl]
        exact cT_lt htt i hi
      have main := gT_ok (K := X.K) (S := kx.vars ++ x.vars) has hlen hrp rr0 xs0
      refine gT_mono main fun σ2 H2 ⟨e1, e2, e3, e4, e5⟩ => ?_
      subst e1
      have hw : wipe σ2 own = wipe σ own := by
        refine wipe_eq (e2.trans wl) fun a hna => ?_
        rw [e5 a (fun z => hna (by simpa using List.all_eq_true.mp hids a z)), wipe_out hna]
      refine ⟨hw, ?_⟩
      have tr2 : Trk (fun a => A a ∨ a = D') H2 := tr'.same s2
      have pre2 : Pre p.blk (kx.vars ++ x.vars) (fun a => A a ∨ a = D') env1 σ2 H2 := ⟨tr2, e3, e4, by rw [e2, wl]; exact pre.len⟩
      have pre0 : Pre p.blk (Oe.no).vars (fun a => A a ∨ a = D') env1 σ2 H2 := ⟨tr2, (fun a h => nomatch h), e4, by rw [e2, wl]; exact pre.len⟩
      refine ⟨fun a => A a ∨ a = D', env1, pre0, ?_⟩
      have kp : ∀ {H3 : Hp} {o : HO}, Same H2 H3 → Same H1 (upd H3 D' o) := fun {H3 o} s3 b u e => by
        rw [upd_ne (ne_of_none e hD)]
        exact s3 b u (s2 b u (sc1 b u e))
      show After p.blk σ2 H2 (evT p.Φ .no env1) _
      simp only [evT]
      intro H3 s3
      rw [if_pos rfl]
      refine ⟨fun a => A a ∨ a = D', env1, (pre2.same s3).left, ?_⟩
      show After p.blk σ2 H3 (evE p.Φ kx env1) _
      cases hek : evE p.Φ kx env1 with
      | ex c2 => simp only [hek] at hfd'; exact absurd hfd'.symm hfd
      | st => simp only [hek] at hfd'; exact absurd hfd'.symm hfd
      | ok kd =>
        simp only [hek] at hfd'
        intro H4 s4 y hy
        by_cases hkey : isKey kd = true
        · rw [if_pos hkey] at hfd'
          obtain ⟨kk, rfl, rfl⟩ := isKey_of hy hkey
          refine ⟨fun a => A a ∨ a = D', env1, ((pre2.same s3).same s4).right, ?_⟩
          show After p.blk σ2 H4 (evE p.Φ x env1) _
          cases hex : evE p.Φ x env1 with
          | ex c2 => simp only [hex] at hfd'; exact absurd hfd'.symm hfd
          | st => simp only [hex] at hfd'; exact absurd hfd'.symm hfd
          | ok z =>
            simp only [hex] at hfd'
            rcases compL_cons hcl with ⟨z', l', e, hc2, hrest⟩ | ⟨e, _⟩
            · rw [← hfd'] at e
              obtain rfl : PyData.tuple [keyD kk, z] = z' := Option.some.inj (R.ok.inj e)
              intro H5 s5 v hv
              have s35 := s3.trans (s4.trans s5)
              have hlk := L2.length_putK acc kk v
              refine ⟨acc, kk, rfl, (s2.trans s35) _ _ ha, by omega, hlt, kp s35, putK acc kk v, putD (keyD kk) z accD, l', upd_same, by omega, ?_, hc2, ?_⟩
              · exact RpK.upd (A := fun a => A a ∨ a = D') (.inr rfl) (RpK.put hv (RpK.same (s2.trans s35) _ _ hra))
              · rw [← hre, hrest]; rfl
            · rw [← hfd'] at e; cases e
        · rw [if_neg hkey] at hfd'; exact absurd hfd'.symm hfd
    · have hj' : j = ds.length := by omega
      refine .inl ⟨runs.stop j Hc (Keep.of sc1) (by omega), ?_⟩
      rw [hj', List.drop_length] at hcl
      have hcl : rest = [] := (R.ok.inj hcl).symm
      subst hcl
      have hre : accD = l.foldl stepD [] := hre
      rw [← hre] at q3
      exact q3 Hc sc1 _ (.dct nAD (.inl ha) (RpK.less (fun a z => .inl z) _ _ hra)) (topNewD (s1.trans sc1) hDH ha (by omega) hra)
set_option maxHeartbeats 1000000 in
theorem i_dcT {g : G} {k : Nat} {sc scope : Scope} {X : Cx} {p : Pm} {t : Expr} {tt : T} {i : I} {kx x : E} (ok : OkX g k true sc X p)
    (htt : cT g scope t = some tt) (hids : (tt.ids.all fun j => ((ownOf g.N scope.names).map (·.2)).contains j) = true) :
    ∀ σ H Q, (∃ A env, Pre p (E.dc ((ownOf g.N scope.names).map (·.2)) tt i kx x).vars A env σ H ∧ After p σ H (evDc p.Φ isTKey ((ownOf g.N scope.names).map (·.2)) tt i kx x env) (fun d H' => ∀ v, Rp A H' v d → TopNew A H H' v d → Q v H') ∧ ∀ ds, evI p.Φ i env = .ok ds → ds ≠ []) → tDcT (tI p i) (gT X.K tt) (tF p.blk .no) (tE p.blk kx) (tE p.blk x) ((ownOf g.N scope.names).map (·.2)) σ H Q := by
  intro σ H Q q
  generalize (ownOf g.N scope.names).map (·.2) = own at hids q
  obtain ⟨A, env, pre, q, hne⟩ := q
  unfold evDc at q
  refine ⟨A, env, pre.left, q.bind.eqn.mono fun ds H1 s1 ⟨hds, q2⟩ J runs hz D' hD => ?_⟩
  generalize hf : (fun d : D => match asgT tt d (wipeS env own) with
    | none => R.st
    | some env1 => match evE p.Φ kx env1 with
      | .ok x' => if isTKey x' = true then (match evE p.Φ x env1 with
        | .ok y => R.ok (some (PyData.tuple [x', y]))
        | _ => .st) else .st
      | _ => .st) = f at q2
  cases hl : compL f ds with
  | ex c => exact absurd hl compL_nx
  | st => rw [hl] at q2; exact q2.elim
  | ok l =>
    rw [hl] at q2
    have q3 : ∀ H', Same H1 H' → ∀ v, Rp A H' v (.dict (l.foldl stepD [])) → TopNew A H H' v (.dict (l.foldl stepD [])) → Q v H' := q2
    have hDH : H D' = none := s1.free hD
    have nAD : ¬ A D' := fun z => pre.tr D' z hDH
    have nosx : ∀ j c, geti env j ≠ .x c := fun j c e => by
      obtain ⟨a, e2, _⟩ := pre.xs j c e
      rw [ok.nosx rfl] at e2
      cases e2
    refine ⟨fun j m Hc => m = ds.length - j ∧ j ≤ ds.length ∧ Same H1 Hc ∧ ∃ acc accD rest, Hc D' = some (dTX D' acc) ∧ acc.length ≤ j ∧ (0 < j → acc ≠ []) ∧ RpT (fun a => A a ∨ a = D') Hc acc accD ∧ compL f (ds.drop j) = .ok rest ∧ rest.foldl stepD accD = l.foldl stepD [],
      ⟨ds.length, by simp, Nat.zero_le _, same_upd hD, [], [], l, upd_same, Nat.le_refl _, (fun z => absurd z (Nat.lt_irrefl _)), .nil, by simpa using hl, rfl⟩, ?_⟩
    rintro j m Hc ⟨rfl, hj, sc1, acc, accD, rest, ha, hal, han, hra, hcl, hre⟩
    by_cases hlt : j < ds.length
    · refine .inr ⟨runs.go j Hc (Keep.of sc1) hlt, fun Hc => (j + 1) ≤ ds.length ∧ Same H1 Hc ∧ ∃ acc accD rest, Hc D' = some (dTX D' acc) ∧ acc.length ≤ j + 1 ∧ (0 < j + 1 → acc ≠ []) ∧ RpT (fun a => A a ∨ a = D') Hc acc accD ∧ compL f (ds.drop (j + 1)) = .ok rest ∧ rest.foldl stepD accD = l.foldl stepD [],
        fun H' h => ⟨ds.length - (j + 1), by omega, rfl, h⟩, fun y H' hy => ?_⟩
      have tr' : Trk (fun a => A a ∨ a = D') Hc := fun a z => by
        rcases z with z | z
        · exact ((pre.tr.same s1).same sc1) a z
        · rw [z, ha]; simp
      obtain ⟨d, hd, s2, hrp⟩ := runs.yld j Hc y H' (fun a => A a ∨ a = D') hlt (Keep.of sc1) tr' (fun a z => by
        rcases z with z | z
        · exact .inl (aI z)
        · exact .inr (by rw [z]; exact hD)) hy
      have hdr : ds.drop j = d :: ds.drop (j + 1) := by
        have e := List.drop_eq_getElem_cons hlt
        rw [List.getElem?_eq_getElem hlt] at hd
        rw [e, Option.some.inj hd]
      rw [hdr] at hcl
      have sH : Same H H' := s1.trans (sc1.trans s2)
      -- the target
      have hfd : f d ≠ .st := by
        rcases compL_cons hcl with ⟨_, _, e, _⟩ | ⟨e, _⟩ <;> rw [e] <;> intro z <;> cases z
      have hfd' := congrFun hf d
      cases has : asgT tt d (wipeS env own) with
      | none => simp only [has] at hfd'; exact absurd hfd'.symm hfd
      | some env1 =>
      simp only [has] at hfd'
      have wl : (wipe σ own).length = σ.length := wipe_length σ own
      have rr0 : RR (kx.vars ++ x.vars) (fun a => A a ∨ a = D') (wipeS env own) (wipe σ own) H' := by
        intro a haS e hae
        rw [geti_wipeS] at hae
        by_cases hin : a ∈ own
        · simp [hin, rdS] at hae
        · simp only [hin, if_false] at hae
          obtain ⟨v, e1, e2⟩ := pre.rr a (by simp only [E.vars]; exact List.mem_append_right _ haS) e hae
          exact ⟨v, by rw [wipe_out hin]; exact e1, Rp.keep (Keep.of sH) (fun b z => by
            rcases z with z | z
            · exact .inl z
            · exact .inr (by rw [z]; exact hDH)) e v e2⟩
      have xs0 : XS (none : Option (Nat × Str × Addr)) (wipeS env own) (wipe σ own) := by
        intro a c2 hac
        rw [geti_wipeS] at hac
        by_cases hin : a ∈ own
        · simp [hin] at hac
        · simp only [hin, if_false] at hac
          exact absurd hac (nosx a c2)
      have hlen : ∀ i ∈ tt.ids, i < (wipe σ own).length := fun i hi => by
        rw [wl, pre.len, ok.nl]
        exact cT_lt htt i hi
      have main := gT_ok (K := X.K) (S := kx.vars ++ x.vars) has hlen hrp rr0 xs0
      refine gT_mono main fun σ2 H2 ⟨e1, e2, e3, e4, e5⟩ => ?_
      subst e1
      have hw : wipe σ2 own = wipe σ own := by
        refine wipe_eq (e2.trans wl) fun a hna => ?_
        rw [e5 a (fun z => hna (by simpa using List.all_eq_true.mp hids a z)), wipe_out hna]
      refine ⟨hw, ?_⟩
      have tr2 : Trk (fun a => A a ∨ a = D') H2 := tr'.same s2
      have pre2 : Pre p.blk (kx.vars ++ x.vars) (fun a => A a ∨ a = D') env1 σ2 H2 := ⟨tr2, e3, e4, by rw [e2, wl]; exact pre.len⟩
      have pre0 : Pre p.blk (Oe.no).vars (fun a => A a ∨ a = D') env1 σ2 H2 := ⟨tr2, (fun a h => nomatch h), e4, by rw [e2, wl]; exact pre.len⟩
      refine ⟨fun a => A a ∨ a = D', env1, pre0, ?_⟩
      have kp : ∀ {H3 : Hp} {o : HO}, Same H2 H3 → Same H1 (upd H3 D' o) := fun {H3 o} s3 b u e => by
        rw [upd_ne (ne_of_none e hD)]
        exact s3 b u (s2 b u (sc1 b u e))
      show After p.blk σ2 H2 (evT p.Φ .no env1) _
      simp only [evT]
      intro H3 s3
      rw [if_pos rfl]
      refine ⟨fun a => A a ∨ a = D', env1, (pre2.same s3).left, ?_⟩
      show After p.blk σ2 H3 (evE p.Φ kx env1) _
      cases hek : evE p.Φ kx env1 with
      | ex c2 => simp only [hek] at hfd'; exact absurd hfd'.symm hfd
      | st => simp only [hek] at hfd'; exact absurd hfd'.symm hfd
      | ok kd =>
        simp only [hek] at hfd'
        intro H4 s4 y hy
        by_cases hkey : isTKey kd = true
        · rw [if_pos hkey] at hfd'
          obtain ⟨kk, cc, rfl, rfl, tkk, nkk⟩ := isTKey_of hy hkey
          refine ⟨fun a => A a ∨ a = D', env1, ((pre2.same s3).same s4).right, ?_⟩
          show After p.blk σ2 H4 (evE p.Φ x env1) _
          cases hex : evE p.Φ x env1 with
          | ex c2 => simp only [hex] at hfd'; exact absurd hfd'.symm hfd
          | st => simp only [hex] at hfd'; exact absurd hfd'.symm hfd
          | ok z =>
            simp only [hex] at hfd'
            rcases compL_cons hcl with ⟨z', l', e, hc2, hrest⟩ | ⟨e, _⟩
            · rw [← hfd'] at e
              obtain rfl : PyData.tuple [.tuple (kk.map .int), z] = z' := Option.some.inj (R.ok.inj e)
              intro H5 s5 v hv
              have s35 := s3.trans (s4.trans s5)
              have hlk := putT_len acc kk cc v
              have hr5 := RpT.same (s2.trans s35) _ _ hra
              have tk5 := tkk.same s5
              refine ⟨acc, kk, cc, rfl, tk5.rd, (s2.trans s35) _ _ ha, hr5.tks, by omega, hlt, kp s35, putT acc kk cc v, putD (.tuple (kk.map .int)) z accD, l', upd_same, by omega, (fun _ => putT_ne _ _ _ _), ?_, hc2, ?_⟩
              · exact RpT.upd (A := fun a => A a ∨ a = D') (.inr rfl) (RpT.put nkk tk5 hv hr5)
              · rw [← hre, hrest]; rfl
            · rw [← hfd'] at e; cases e
        · rw [if_neg hkey] at hfd'; exact absurd hfd'.symm hfd
    · have hj' : j = ds.length := by omega
      refine .inl ⟨runs.stop j Hc (Keep.of sc1) (by omega), ?_⟩
      rw [hj', List.drop_length] at hcl
      have hcl : rest = [] := (R.ok.inj hcl).symm
      subst hcl
      have hre : accD = l.foldl stepD [] := hre
      rw [← hre] at q3
      have hj0 : 0 < j := by rw [hj']; exact List.length_pos_iff.mpr (hne ds hds)
      exact q3 Hc sc1 _ (.dtt nAD ha (han hj0) (RpT.less (fun a z => .inl z) _ _ hra)) (topNewT hDH ha (han hj0) hra)
theorem l_dcF {g : G} {k : Nat} {sc scope : Scope} {X : Cx} {p : Pm} {kx vx t it : Expr} {pos : Pos} {tt : T} {i : I} {kk x : E} (ok : OkX g k true sc X p)
    (hb : blkC g.N sc scope (ownOf g.N scope.names) = true) (hi : PI X t it (tI p i)) (htt : cT g scope t = some tt) (hids : (tt.ids.all fun j => ((ownOf g.N scope.names).map (·.2)).contains j) = true) (hfold : ∀ y, foldedSetIterable it X.env y = pure y)
    (ht : ∀ X', OkX g k true (relS scope sc) X' p.blk → PTs X' [] (tF p.blk .no)) (hk : ∀ X', OkX g k true (relS scope sc) X' p.blk → PE X' kx (tE p.blk kk)) (he : ∀ X', OkX g k true (relS scope sc) X' p.blk → PE X' vx (tE p.blk x)) :
    PE X (.DictComp kx vx [⟨t, it, [], 0⟩] scope pos) (tEf p (.dc ((ownOf g.N scope.names).map (·.2)) tt i kk x)) := by
  have hnd : X.N.Nodup := by rw [ok.hN]; exact ok.nd
  have hblk : BlkOk X.N X.env.scope scope (ownOf g.N scope.names) := by rw [ok.hN, ok.sc]; exact blkOk_by hb
  have pe_or : ∀ {e : Expr} {t1 t2 : TE}, PE X e t1 → PE X e t2 → PE X e (fun σ H Q => t1 σ H Q ∨ t2 σ H Q) := fun h1 h2 => ⟨fun pins s σ H Q J h => h.elim (h1.run pins s σ H Q J) (h2.run pins s σ H Q J)⟩
  refine PE.imp (pe_or (pe_dc (g := gT X.K tt) ok.cal hnd hi hblk (fun s H C cl fp => cT_ok (X := X.blk s H scope (compEnvC scope cl C X.env) fp) ok.hN ok.nd (.inl ok.cal) (stOk_blk s H C cl fp) htt) (fun s H C cl fp => ht _ (ok.blk s H C cl fp)) (fun s H C cl fp => hk _ (ok.blk s H C cl fp)) (fun s H C cl fp => he _ (ok.blk s H C cl fp)) hfold) (pe_dcT (g := gT X.K tt) ok.cal (by have := ok.un; omega) hnd hi hblk (fun s H C cl fp => cT_ok (X := X.blk s H scope (compEnvC scope cl C X.env) fp) ok.hN ok.nd (.inl ok.cal) (stOk_blk s H C cl fp) htt) (fun s H C cl fp => ht _ (ok.blk s H C cl fp)) (fun s H C cl fp => hk _ (ok.blk s H C cl fp)) (fun s H C cl fp => he _ (ok.blk s H C cl fp)) hfold)) fun σ H Q ⟨A, env, pre, q⟩ => ?_
  rcases evE_dc p.Φ ((ownOf g.N scope.names).map (·.2)) tt i kk x env with e | ⟨e, hne⟩
  · exact .inl (i_dcK ok htt hids σ H Q ⟨A, env, pre, by rw [← e]; exact q⟩)
  · exact .inr (i_dcT ok htt hids σ H Q ⟨A, env, pre, by rw [← e]; exact q, hne⟩)
theorem l_dc {g : G} {k : Nat} {sc scope : Scope} {X : Cx} {p : Pm} {kx vx t it : Expr} {pos : Pos} {tt : T} {i : I} {kk x : E} (ok : OkX g k true sc X p)
    (hb : blkC g.N sc scope (ownOf g.N scope.names) = true) (hi : PI X t it (tI p i)) (htt : cT g scope t = some tt) (hids : (tt.ids.all fun j => ((ownOf g.N scope.names).map (·.2)).contains j) = true) (hfold : ∀ y, foldedSetIterable it X.env y = pure y)
    (ht : ∀ X', OkX g k true (relS scope sc) X' p.blk → PTs X' [] (tF p.blk .no)) (hk : ∀ X', OkX g k true (relS scope sc) X' p.blk → PE X' kx (tE p.blk kk)) (he : ∀ X', OkX g k true (relS scope sc) X' p.blk → PE X' vx (tE p.blk x)) :
    PE X (.DictComp kx vx [⟨t, it, [], 0⟩] scope pos) (tE p (.dc ((ownOf g.N scope.names).map (·.2)) tt i kk x)) := by
  exact PE.imp (l_dcF ok hb hi htt hids hfold ht hk he) fun σ H Q q => q.f
section
variable {g : G} {k n : Nat} {cm : Bool} {sc : Scope} {X : Cx} {p : Pm}
theorem rangeArgs_some {it : Expr} {args : List Expr} (h : rangeArgs sc it = some args) : ∃ p0 pos, it = .Call (.Name "range" p0) args [] pos ∧ glB sc "range" = true := by
  unfold rangeArgs at h
  split at h
  · split at h
    · rename_i c
      cases h
      simp only [Bool.and_eq_true, beq_iff_eq] at c
      obtain ⟨rfl, c⟩ := c
      exact ⟨_, _, rfl, c⟩
    · cases h
  · cases h
theorem enumArg_some {it a : Expr} (h : enumArg sc it = some a) : ∃ p0 pos, it = .Call (.Name "enumerate" p0) [a] [] pos ∧ glB sc "enumerate" = true := by
  unfold enumArg at h
  split at h
  · split at h
    · rename_i c
      cases h
      simp only [Bool.and_eq_true, beq_iff_eq] at c
      obtain ⟨rfl, c⟩ := c
      exact ⟨_, _, rfl, c⟩
    · cases h
  · cases h
theorem isSetCall_some {it a : Expr} (h : isSetCall sc it = some a) : ∃ p0 pos, it = .Call (.Name "set" p0) [a] [] pos ∧ glB sc "set" = true := by
  unfold isSetCall at h
  split at h
  · split at h
    · rename_i c
      cases h
      simp only [Bool.and_eq_true, beq_iff_eq] at c
      obtain ⟨rfl, c⟩ := c
      exact ⟨_, _, rfl, c⟩
    · cases h
  · cases h
theorem rgD_len (a b : Int) : (rgD a b).length = (b - a).toNat := by simp [rgD, iota_length]
theorem rgOk_iff {a b : Int} (h : rgOk a b = true) : -(2 ^ 60) < a ∧ a < 2 ^ 60 ∧ -(2 ^ 60) < b ∧ b < 2 ^ 60 ∧ b - a ≤ 10000000 := by
  simp only [rgOk, Bool.and_eq_true] at h
  obtain ⟨h1, h2, h3⟩ := h
  have h1 := Nat.le_of_ble_eq_true h1
  have h2 := Nat.le_of_ble_eq_true h2
  have h3 := Nat.le_of_ble_eq_true h3
  omega
theorem snd_i (IH : Snd g k n) : ∀ cm sc t it ir X p, OkX g k cm sc X p → cI g (n + 1) cm sc t it = some ir → PI X t it (tI p ir) := by
  intro cm sc t it ir X p ok h
  simp only [cI] at h
  split at h
  · rename_i a hra
    obtain ⟨p0, pos, rfl, hg⟩ := rangeArgs_some hra
    simp only [Option.map_eq_some_iff] at h
    obtain ⟨x, hx, rfl⟩ := h
    have ha := IH.e _ _ _ _ _ _ ok hx
    refine PI.imp (pi_range1 (gl_of ok.sc hg) (blt_of ok (by decide)) (pa_cons ha pa_nil (star_of hx [] X.env)) (star_of hx [] X.env)) fun σ H R q => ?_
    obtain ⟨A, env, pre, q⟩ := q
    simp only [evI] at q
    refine ⟨A, env, pre, q.bind.mono fun d H1 s q2 v hv => ?_⟩
    cases hv with
    | int j =>
      simp only at q2
      split at q2
      · rename_i c
        have c := rgOk_iff c
        refine ⟨j, rfl, by omega, by omega, ?_⟩
        have q3 := q2.here (Itr 0 (j - 0).toNat) Runs.rng (by rw [rgD_len, sizeLine_eq]; omega)
        rw [Int.sub_zero] at q3
        exact q3
      · exact q2.elim
    | _ => exact False.elim q2
  · rename_i a b hra
    obtain ⟨p0, pos, rfl, hg⟩ := rangeArgs_some hra
    simp only [Option.bind_eq_some_iff, Option.map_eq_some_iff] at h
    obtain ⟨x, hx, y, hy, rfl⟩ := h
    have ha := IH.e _ _ _ _ _ _ ok hx
    have hb := IH.e _ _ _ _ _ _ ok hy
    refine PI.imp (pi_range2 (gl_of ok.sc hg) (blt_of ok (by decide)) (pa_cons ha (pa_cons hb pa_nil (star_of hy [] X.env)) (star_of hx [b] X.env)) (by rw [star_of hx [b], star_of hy []]; rfl) (star_of hy [] X.env)) fun σ H R q => ?_
    obtain ⟨A, env, pre, q⟩ := q
    simp only [evI] at q
    have pre' : Pre p (x.vars ++ y.vars) A env σ H := pre
    refine ⟨A, env, pre'.left, q.bind.mono fun d H1 s q2 v hv => ⟨A, env, (pre'.same s).right, q2.bind.mono fun e H2 s2 q3 u hu => ?_⟩⟩
    cases hv with
    | int i => cases hu with
      | int j =>
        simp only at q3
        split at q3
        · rename_i c
          have c := rgOk_iff c
          exact ⟨i, j, rfl, ⟨by omega, by omega, by omega, by omega⟩, q3.here (Itr i (j - i).toNat) Runs.rng (by rw [rgD_len, sizeLine_eq]; omega)⟩
        · exact q3.elim
      | _ => exact False.elim q3
    | _ => exact False.elim q3
  · rename_i a b c hra
    obtain ⟨p0, pos, rfl, hg⟩ := rangeArgs_some hra
    simp only [Option.bind_eq_some_iff, Option.map_eq_some_iff] at h
    obtain ⟨x, hx, y, hy, z, hz, rfl⟩ := h
    have ha := IH.e _ _ _ _ _ _ ok hx
    have hb := IH.e _ _ _ _ _ _ ok hy
    have hc := IH.e _ _ _ _ _ _ ok hz
    refine PI.imp (pi_range3 (gl_of ok.sc hg) (blt_of ok (by decide)) (pa_cons ha (pa_cons hb (pa_cons hc pa_nil (star_of hz [] X.env)) (star_of hy [c] X.env)) (star_of hx [b, c] X.env)) (star_of hx [b, c] X.env) (by rw [star_of hy [c], star_of hz []]; rfl)) fun σ H R q => ?_
    obtain ⟨A, env, pre, q⟩ := q
    simp only [evI] at q
    have pre' : Pre p (x.vars ++ (y.vars ++ z.vars)) A env σ H := pre
    refine ⟨A, env, pre'.left, q.bind.mono fun d H1 s q2 v hv => ⟨A, env, (pre'.same s).right.left, q2.bind.mono fun e H2 s2 q3 u hu => ⟨A, env, (pre'.same (s.trans s2)).right.right, q3.bind.mono fun f H3 s3 q4 w hw => ?_⟩⟩⟩
    cases hv with
    | int i => cases hu with
      | int j => cases hw with
        | int kk =>
          simp only at q4
          split at q4
          · rename_i c
            simp only [Bool.and_eq_true, beq_iff_eq] at c
            obtain ⟨⟨c1, c2⟩, rfl⟩ := c
            have c1 := rgOk_iff c1
            have c2 := rgOk_iff c2
            refine ⟨i, j, -1, (i - j).toNat, rfl, ?_, q4.here (Itc i (-1) (i - j).toNat) Runs.rng3 (by rw [List.length_map, iota_length, sizeLine_eq]; omega)⟩
            exact RgC.neg (by omega) (by omega) (by omega) (by omega)
          · exact q4.elim
        | _ => exact False.elim q4
      | _ => exact False.elim q4
    | _ => exact False.elim q4
  · cases h
  · split at h
    · rename_i a hen
      obtain ⟨p0, pos, rfl, hg⟩ := enumArg_some hen
      split at h
      · simp only [Option.map_eq_some_iff] at h
        obtain ⟨x, hx, rfl⟩ := h
        have ha := IH.e _ _ _ _ _ _ ok hx
        refine PI.imp (pi_enumN (gl_of ok.sc hg) (blt_of ok (by decide)) (pa_cons ha pa_nil (star_of hx [] X.env)) (star_of hx [] X.env)) fun σ H R q => ?_
        obtain ⟨A, env, pre, q⟩ := q
        simp only [evI] at q
        refine ⟨A, env, pre, q.bind.mono fun d H1 s q2 v hv => ?_⟩
        cases hv with
        | lst nn hr z ra =>
          exact ⟨_, _, rfl, .inl hr, After.here q2 _ (Runs.en nn hr ra) (by rw [enumD_length, ← ra.length]; exact z)⟩
        | _ => exact False.elim q2
      · cases h
    · simp only [Option.map_eq_some_iff] at h
      obtain ⟨x, hx, rfl⟩ := h
      have ha := IH.e _ _ _ _ _ _ ok hx
      refine PI.imp (pi_seq ha) fun σ H R q => ?_
      obtain ⟨A, env, pre, q⟩ := q
      simp only [evI] at q
      refine ⟨A, env, pre, q.bind.mono fun d H1 s q2 v hv => ?_⟩
      cases hv with
      | lst nn hr z ra => exact ⟨_, _, rfl, .inl ⟨hr, After.here q2 _ (Runs.list nn hr ra) (by rw [← ra.length]; exact z)⟩⟩
      | tup nn hr z ra => exact ⟨_, _, rfl, .inr ⟨hr.rd, After.here q2 _ (Runs.tup nn hr ra) (by rw [← ra.length]; exact z)⟩⟩
      | _ => exact False.elim q2
theorem snd_o (IH : Snd g k n) : ∀ cm sc o ir X p, OkX g k cm sc X p → cO g (n + 1) cm sc o = some ir → PO X o (tO p ir) := by
  intro cm sc o ir X p ok h
  cases o with
  | none =>
    simp only [cO, Option.some.injEq] at h
    subst h
    refine PO.imp po_none fun σ H Q q => ?_
    obtain ⟨A, env, pre, q⟩ := q
    exact q.here
  | some e =>
    simp only [cO, Option.map_eq_some_iff] at h
    obtain ⟨x, hx, rfl⟩ := h
    refine PO.imp (po_some (IH.e _ _ _ _ _ _ ok hx)) fun σ H Q q => ?_
    obtain ⟨A, env, pre, q⟩ := q
    simp only [evO] at q
    refine ⟨A, env, pre, q.bind.mono fun d H1 s q2 v hv => ?_⟩
    cases hv with
    | int i => exact ⟨i, rfl, q2.here⟩
    | _ => exact False.elim q2
theorem snd_f (IH : Snd g k n) : ∀ cm sc l ir X p, OkX g k cm sc X p → cF g (n + 1) cm sc l = some ir → PTs X l (tF p ir) := by
  intro cm sc l ir X p ok h
  match l, h with
  | [], h =>
    simp only [cF, Option.some.injEq] at h
    subst h
    refine PTs.imp pts_nil fun σ H Q q => ?_
    obtain ⟨A, env, pre, q⟩ := q
    exact q.here
  | [e], h =>
    simp only [cF, Option.map_eq_some_iff] at h
    obtain ⟨x, hx, rfl⟩ := h
    exact PTs.imp (pts_one (IH.t _ _ _ _ _ _ ok hx)) fun σ H Q q => q
  | _ :: _ :: _, h => simp [cF] at h
theorem snd_es (IH : Snd g k n) : ∀ cm sc es ir X p, OkX g k cm sc X p → cEs g (n + 1) cm sc es = some ir → PA X es (tEs p ir) := by
  intro cm sc es ir X p ok h
  cases es with
  | nil =>
    simp only [cEs, Option.some.injEq] at h
    subst h
    refine PA.imp pa_nil fun σ H Q q => ?_
    obtain ⟨A, env, pre, q⟩ := q
    exact q.here _ .nil
  | cons e r =>
    simp only [cEs, Option.bind_eq_some_iff, Option.map_eq_some_iff] at h
    obtain ⟨x, hx, y, hy, rfl⟩ := h
    refine PA.imp (pa_cons (IH.e _ _ _ _ _ _ ok hx) (IH.es _ _ _ _ _ _ ok hy) (star_of hx r X.env)) fun σ H Q q => ?_
    obtain ⟨A, env, pre, q⟩ := q
    simp only [evs] at q
    have pre' : Pre p (x.vars ++ y.vars) A env σ H := pre
    exact ⟨A, env, pre'.left, q.bind.mono fun d H1 s q2 v hv => ⟨A, env, (pre'.same s).right, q2.bind.mono fun l H2 s2 q3 vs hvs => q3.here _ (.cons (Rp.same s2 _ _ hv) hvs)⟩⟩
theorem nobeh {e : Expr} {x : E} (h : cE g n cm sc e = some x) (op : CmpOp) : behindInMarks op e = false := by
  cases n with
  | zero => simp [cE] at h
  | succ n => cases e <;> first | rfl | (simp [cE] at h)
theorem snd_c (IH : Snd g k n) : ∀ cm sc os bs ir X p, OkX g k cm sc X p → cC g (n + 1) cm sc os bs = some ir → lastMarks os bs = false ∧
    (∀ pos pins s σ H x v Q, Inv X pins σ H s → RelV x v → tCh p ir x σ H Q → wpAny (model X.prog X.w) X.A (compareChain pos v os (evalEach bs X.env)) (EP X pins σ Q) X.xe s) ∧
    (∀ pos pins s σ H x v Q, Inv X pins σ H s → RelV x v → tChT p ir x σ H Q → wpAny (model X.prog X.w) X.A (testChain pos v os (evalEach bs X.env)) (TP X pins σ Q) X.xe s) := by
  intro cm sc os bs ir X p ok h
  have hu : X.A.units + 65 < cLine := by have := ok.un; omega
  match os, bs, h with
  | [o], [b], h =>
    simp only [cC, Option.bind_eq_some_iff, Option.map_eq_some_iff] at h
    obtain ⟨c, ho, y, hy, rfl⟩ := h
    rw [cmOf_eq ho]
    have hb := IH.e _ _ _ _ _ _ ok hy
    refine ⟨nobeh hy _, fun pos pins s σ H x v Q I rx q => ?_, fun pos pins s σ H x v Q I rx q => ?_⟩
    · obtain ⟨A, env, d, pre, hx, q⟩ := q
      simp only [evC] at q
      refine chain_last (thn (hb.run pins s σ H (fun u H1 => rCm (evCm c) x u H1 Q) I ⟨A, env, pre, q.bind.mono fun e H1 s1 q2 u hu => ?_⟩) fun u s2 ⟨y, H2, I2, r2, q2⟩ => op_C hu c pins s2 σ H2 x y v u Q I2 rx r2 q2)
      cases e2 : evCm c d e with
      | ok b => rw [e2] at q2; exact ⟨A, d, e, b, Rp.same s1 _ _ hx, hu, e2, q2.here _ (.bl _)⟩
      | ex c2 => exact absurd e2 (evCm_nx c2)
      | st => rw [e2] at q2; exact q2.elim
    · obtain ⟨A, env, d, pre, hx, q⟩ := q
      simp only [evC] at q
      have q := q.toB.bind
      refine test_last (thn (hb.run pins s σ H (fun u H1 => rCm (evCm c) x u H1 fun z H2 => ∃ k, z = .bl k ∧ Q k H2) I ⟨A, env, pre, q.mono fun e H1 s1 q2 u hu => ?_⟩) fun u s2 ⟨y, H2, I2, r2, q2⟩ => thn (op_C hu c pins s2 σ H2 x y v u _ I2 rx r2 q2) fun w' s3 ⟨z, H3, I3, r3, k, e, q3⟩ => ?_)
      · cases e2 : evCm c d e with
        | ok b =>
          rw [e2] at q2
          obtain ⟨b', e3, q3⟩ := q2.here
          cases e3
          exact ⟨A, d, e, b, Rp.same s1 _ _ hx, hu, e2, b, rfl, q3⟩
        | ex c2 => exact absurd e2 (evCm_nx c2)
        | st => rw [e2] at q2; exact q2.elim
      · subst e
        cases r3
        exact wpAny_truthy_bool ⟨H3, I3, q3⟩
  | o :: o2 :: os, b :: b2 :: bs, h =>
    simp only [cC, Option.bind_eq_some_iff, Option.map_eq_some_iff] at h
    obtain ⟨c, ho, y, hy, r, hr, rfl⟩ := h
    rw [cmOf_eq ho]
    have hb := IH.e _ _ _ _ _ _ ok hy
    obtain ⟨g1, g2, g3⟩ := IH.c _ _ _ _ _ _ _ ok hr
    have step : ∀ {A env} {d : D} {σ : L2.St} {H : Hp} {x : V} {Q : D → Hp → Prop}, Pre p (y.vars ++ r.vars) A env σ H → Rp A H x d → After p σ H (evC p.Φ (.more c y r) d env) Q →
        tE p y σ H fun u H1 => ∃ e k, Pre p r.vars A env σ H1 ∧ Rp A H1 x d ∧ Rp A H1 u e ∧ evCm c d e = .ok k ∧ After p σ H1 (if k then evC p.Φ r e env else .ok (.bool false)) Q := by
      intro A env d σ H x Q pre hx q
      simp only [evC] at q
      refine ⟨A, env, pre.left, q.bind.mono fun e H1 s1 q2 u hu => ?_⟩
      cases e2 : evCm c d e with
      | ok b => rw [e2] at q2; exact ⟨e, b, (pre.same s1).right, Rp.same s1 _ _ hx, hu, e2, q2⟩
      | ex c2 => exact absurd e2 (evCm_nx c2)
      | st => rw [e2] at q2; exact q2.elim
    refine ⟨g1, fun pos pins s σ H x v Q I rx q => ?_, fun pos pins s σ H x v Q I rx q => ?_⟩
    · obtain ⟨A, env, d, pre, hx, q⟩ := q
      refine chain_link (thn (hb.run pins s σ H _ I (step pre hx q)) fun u s2 ⟨z, H2, I2, r2, e, kk, pr, hx2, hz2, ek, q2⟩ => thn (op_C hu c pins s2 σ H2 x z v u (fun w' H3 => w' = .bl kk ∧ H3 = H2) I2 rx r2 ⟨A, d, e, kk, hx2, hz2, ek, rfl, rfl⟩) fun w' s3 ⟨w2, H3, I3, r3, e3, e4⟩ => ?_)
      subst e3 e4
      cases r3
      refine wpAny_truthy_bool ?_
      cases kk with
      | false => exact ite_ff ⟨.bl false, H3, I3, rfl, q2.here _ (.bl _)⟩
      | true => exact ite_tt (g2 pos pins s3 σ H3 z u Q I3 r2 ⟨A, env, e, pr, hz2, q2⟩)
    · obtain ⟨A, env, d, pre, hx, q⟩ := q
      refine test_link (thn (hb.run pins s σ H _ I (step pre hx q.toB)) fun u s2 ⟨z, H2, I2, r2, e, kk, pr, hx2, hz2, ek, q2⟩ => thn (op_C hu c pins s2 σ H2 x z v u (fun w' H3 => w' = .bl kk ∧ H3 = H2) I2 rx r2 ⟨A, d, e, kk, hx2, hz2, ek, rfl, rfl⟩) fun w' s3 ⟨w2, H3, I3, r3, e3, e4⟩ => ?_)
      subst e3 e4
      cases r3
      refine wpAny_truthy_bool ?_
      cases kk with
      | false =>
        obtain ⟨b', e5, q3⟩ := q2.here
        cases e5
        exact ite_ff ⟨H3, I3, q3⟩
      | true =>
        refine ite_tt (g3 pos pins s3 σ H3 z u Q I3 r2 ⟨A, env, e, pr, hz2, ?_⟩)
        have q2 : After p σ H3 (evC p.Φ r e env) _ := q2
        cases e6 : evC p.Φ r e env with
        | ok d2 =>
          rw [e6] at q2
          obtain ⟨b', e5, q3⟩ := q2.here
          subst e5
          exact fun H4 s4 => by
            obtain ⟨b2, e7, q4⟩ := q2 H4 s4
            cases e7
            exact q4
        | ex c2 => rw [e6] at q2; exact q2
        | st => rw [e6] at q2; exact q2
  | [], _, h => simp [cC] at h
  | [_], [], h => simp [cC] at h
  | [_], _ :: _ :: _, h =>
    cases n <;> simp [cC] at h
  | _ :: _ :: _, [], h => simp [cC] at h
  | _ :: _ :: _, [_], h =>
    cases n <;> simp [cC] at h
end
theorem biOf_one {f : Str} {b : Bi} (h : biOf f 1 = some b) : (f = "len" ∧ b = .len) ∨ (f = "abs" ∧ b = .abs) ∨ (f = "min" ∧ b = .min1) ∨ (f = "max" ∧ b = .max1) ∨ (f = "sorted" ∧ b = .sorted) ∨ (f = "sum" ∧ b = .sum) ∨ (f = "all" ∧ b = .all) ∨ (f = "any" ∧ b = .any) := by
  unfold biOf at h
  repeat' (split at h <;> (try (rename_i c; simp at c; cases h; simp [c]; done)))
  all_goals simp_all
theorem biOf_two {f : Str} {b : Bi} (h : biOf f 2 = some b) : (f = "min" ∧ b = .min2) ∨ (f = "max" ∧ b = .max2) := by
  unfold biOf at h
  repeat' (split at h <;> (try (rename_i c; simp at c; cases h; simp [c]; done)))
  all_goals simp_all
theorem tyOf_one {f : Str} {b : Bi} (h : tyOf f 1 = some b) : (f = "int" ∧ b = .int) ∨ (f = "tuple" ∧ b = .tuple) ∨ (f = "list" ∧ b = .list) ∨ (f = "str" ∧ b = .str) := by
  unfold tyOf at h
  repeat' (split at h <;> (try (rename_i c; simp at c; cases h; simp [c]; done)))
  all_goals simp_all
theorem kindB_some {sc : Scope} {e : Expr} {b : Bi} (h : kindB sc e = some b) : ∃ x pos, e = .Name x pos ∧ glB sc x = true ∧ ((x = "int" ∧ b = .isInt) ∨ (x = "str" ∧ b = .isStr) ∨ (x = "bool" ∧ b = .isBool) ∨ (x = "tuple" ∧ b = .isTup)) := by
  unfold kindB at h
  split at h
  · split at h
    · rename_i c
      refine ⟨_, _, rfl, c, ?_⟩
      repeat' (split at h <;> (try (rename_i c; simp at c; cases h; simp [c]; done)))
      all_goals simp_all
    · cases h
  · cases h
section
variable {g : G} {k n : Nat} {sc : Scope} {X : Cx} {p : Pm}
theorem l_bi {f : Str} {b : Bi} {a : Expr} {x : E} {p0 pos : Pos} (ok : OkX g k true sc X p) (hg : glB sc f = true) (h : biOf f 1 = some b) (hx : cE g n true sc a = some x) (ha : PE X a (tE p x)) : PE X (.Call (.Name f p0) [a] [] pos) (tE p (.bi b (.cons x .nil))) := by
  have hc : X.calm = true := ok.cal
  have hu : X.A.units + 100 < cLine := by have := ok.un; omega
  rcases biOf_one h with ⟨rfl, rfl⟩ | ⟨rfl, rfl⟩ | ⟨rfl, rfl⟩ | ⟨rfl, rfl⟩ | ⟨rfl, rfl⟩ | ⟨rfl, rfl⟩ | ⟨rfl, rfl⟩ | ⟨rfl, rfl⟩
  · exact l_bi1 ok hg (by decide) PySem.boot_len (by decide) (by decide) c_len hx ha
  · exact l_bi1 ok hg (by decide) PyProof.Rows.boot_abs (by decide) (by decide) c_abs hx ha
  · exact l_bi1 ok hg (by decide) PyProof.Rows.boot_min (by decide) (by decide) (c_min1 hc hu) hx ha
  · exact l_bi1 ok hg (by decide) PyProof.Rows.boot_max (by decide) (by decide) (c_max1 hc) hx ha
  · exact l_bi1 ok hg (by decide) PyProof.Rows.boot_sorted (by decide) (by decide) (c_sorted hu) hx ha
  · exact l_bi1 ok hg (by decide) PyProof.Rows.boot_sum (by decide) (by decide) (c_sum hc) hx ha
  · exact l_bi1 ok hg (by decide) PyProof.Rows.boot_all (by decide) (by decide) (c_all hc) hx ha
  · exact l_bi1 ok hg (by decide) PyProof.Rows.boot_any (by decide) (by decide) (c_any hc) hx ha
theorem l_ty {cm : Bool} {f : Str} {b : Bi} {a : Expr} {x : E} {p0 pos : Pos} (ok : OkX g k cm sc X p) (hg : glB sc f = true) (h : tyOf f 1 = some b) (hx : cE g n cm sc a = some x) (ha : PE X a (tE p x)) : PE X (.Call (.Name f p0) [a] [] pos) (tE p (.bi b (.cons x .nil))) := by
  rcases tyOf_one h with ⟨rfl, rfl⟩ | ⟨rfl, rfl⟩ | ⟨rfl, rfl⟩ | ⟨rfl, rfl⟩
  · exact l_ty1 ok hg (by decide) PyProof.Rows.boot_int (by decide) (by decide) c_int hx ha
  · exact l_ty1 ok hg (by decide) PyProof.Rows.boot_tuple (by decide) (by decide) c_tuple hx ha
  · exact l_ty1 ok hg (by decide) PyProof.Rows.boot_list (by decide) (by decide) c_list hx ha
  · exact l_ty1 ok hg (by decide) PyProof.Rows.boot_str (by decide) (by decide) c_str hx ha
theorem prg1 {cm : Bool} {b : Expr} {x : E} {p0 pos : Pos} (ok : OkX g k cm sc X p) (hg : glB sc "range" = true) (hx : cE g n cm sc b = some x) (ha : PE X b (tE p x)) : PRg X (.Call (.Name "range" p0) [b] [] pos) (tRg1 (tE p x)) :=
  prg_1 (gl_of ok.sc hg) (blt_of ok (by decide)) ha (star_of hx [] X.env)
theorem prg2 {cm : Bool} {b c : Expr} {x y : E} {p0 pos : Pos} (ok : OkX g k cm sc X p) (hg : glB sc "range" = true) (hx : cE g n cm sc b = some x) (ha : PE X b (tE p x)) (hy : cE g n cm sc c = some y) (hb : PE X c (tE p y)) : PRg X (.Call (.Name "range" p0) [b, c] [] pos) (tRg2 (tE p x) (tE p y)) :=
  prg_2 (gl_of ok.sc hg) (blt_of ok (by decide)) ha hb (star_of hx [c] X.env) (star_of hy [] X.env) (by rw [star_of hy [] X.env]; rfl)
theorem iota_rg (a b : Int) : L2.rgV a b = (iota a (b - a).toNat).map V.int := by
  unfold L2.rgV
  apply List.ext_getElem?
  intro i
  by_cases h : i < (b - a).toNat
  · rw [List.getElem?_map, List.getElem?_map, iota_get _ _ _ h, List.getElem?_range h]; rfl
  · rw [List.getElem?_eq_none (by simp; omega), List.getElem?_eq_none (by simp [iota_length]; omega)]
theorem rgV_rp {A : Addr → Prop} {H : Hp} (a b : Int) : RpA A H (L2.rgV a b) (rgD a b) := by
  rw [iota_rg]
  exact RpA.ofInts
theorem rg_ok {a b : Int} (h : rgOk a b = true) : RgOk a b ∧ (L2.rgV a b).length ≤ sizeLine := by
  have c := rgOk_iff h
  refine ⟨⟨by omega, by omega, by omega, by omega, by omega⟩, ?_⟩
  rw [rgV_length, sizeLine_eq]; omega
theorem l_tix {cm : Bool} {o a : Expr} {m : Str} {ys : List Str} {y : E} {ap pos : Pos} (h : tixOf o m = some ys) (hl : (ap.endLine == pos.line) = true) (hy : cE g n cm sc a = some y) (ha : PE X a (tE p y)) : PE X (.Call (.Attribute o m ap) [a] [] pos) (tE p (.bi (.tix ys) (.cons y .nil))) := by
  unfold tixOf at h
  split at h
  · rename_i mm es k tp
    split at h
    · rename_i c
      rw [Bool.and_eq_true] at c
      obtain ⟨c1, c2⟩ := c
      have c1 := eq_of_beq c1
      subst c1
      refine PE.imp (pe_tix h (of_decide_eq_true c2) ha (star_of hy [] X.env) hl) fun σ H Q q t ht => ?_
      have q := bi1 q
      obtain ⟨A, env, pre, q⟩ := q
      refine ⟨A, env, pre.same (same_upd ht), (q.from (same_upd ht)).mono fun d H' s q v hv => ?_⟩
      obtain ⟨A', a', tr, ra, hq⟩ := q v hv
      cases ra with
      | str z =>
        obtain ⟨hm, hq⟩ := hq.ite
        exact ⟨z, rfl, s t _ (if_pos rfl), hm, hq.of _ _ (Same.refl H') (.int _)⟩
      | _ => exact hq.st
    · cases h
  · cases h
theorem l_isx {f : Str} {a b : Expr} {i : Nat} {c : Str} {cm : Bool} {p0 pos : Pos} (ok : OkX g k cm sc X p) (hg : glB sc "isinstance" = true) (h : clsArg g sc a b = some (i, c)) : PE X (.Call (.Name "isinstance" p0) [a, b] [] pos) (tE p (.isx i c)) := by
  unfold clsArg at h
  split at h
  · rename_i x px y py
    split at h
    · rename_i j hj
      split at h
      · rename_i hc
        simp only [Bool.and_eq_true, Option.some.injEq, Prod.mk.injEq] at h hc
        obtain ⟨rfl, rfl⟩ := h
        obtain ⟨⟨⟨⟨⟨h0, h1⟩, h2⟩, h3⟩, h4⟩, h5⟩ := hc
        simp only [Bool.not_eq_true', Bool.or_eq_false_iff] at h4 h5
        refine ⟨fun pins s σ H Q I q => ?_⟩
        obtain ⟨A, env, pre, q⟩ := q
        simp only [evE] at q
        split at q
        · rename_i kk hk
          obtain ⟨a, hsx, hσ⟩ := pre.xs _ _ hk
          obtain ⟨hke, X0, oe, pn, hX, hz, hfl⟩ := ok.sx _ _ _ hsx
          have c1 := ok.lk.cl kk hke
          have hy : y ∈ g.ecs := by simpa using h3
          have c2 := ok.lk.cl y hy
          have hci : CallR X (.builtin "isinstance") (rIsE X.K (p.ec kk) a) := by
            have e1 : X.K = X0.K := by rw [hX]
            have xc := (ok.lk.ix h0 kk y hke hy).1
            rw [e1] at xc
            rw [e1, hX]
            exact call_isE (X := X0) xc hz hfl
          refine (pe_callB hci (gl_of ok.sc hg) (blt_of ok (by decide)) PyProof.Rows.boot_isinstance (pa_cons (pe_var (i := j) (by rw [ok.hN]; exact ix?_zero hj) (by rw [ok.sc]; exact vis_of h1) h4.1 h4.2) (pa_cons (pe_glob (v := .ref (p.ec y)) (gl_of ok.sc h2) c2.gl rfl h5) pa_nil rfl) rfl) (by decide) (by decide) rfl rfl).run pins s σ H Q I ?_
          exact ⟨_, hσ, .ref (p.ec y), .ref (p.ec y), subC kk y, rfl, fun u h => h, (ok.lk.ix h0 kk y hke hy).2, q.here _ (.bl _)⟩
        · exact q.elim
      · cases h
    · cases h
  · cases h
end
theorem base_of {g : G} {n : Nat} {cm : Bool} {sc : Scope} {o : Expr} {x : E} (h : cE g n cm sc o = some x) (m : Str) (env : PySem.Env) (w : Sem Value) : attributeBase o m env w = w := by
  cases n with
  | zero => simp [cE] at h
  | succ n =>
    unfold attributeBase
    split
    · exfalso
      rename_i id p0 pos
      have e : cE g (n + 1) cm sc (.Call (.Name id p0) [] [] pos) = none := by
        simp only [cE]
        split
        · rfl
        · split
          · simp
          · rfl
      rw [e] at h
      cases h
    · rfl
theorem fold_of {g : G} {n : Nat} {cm : Bool} {sc : Scope} {t it : Expr} {i : I} (h : cI g n cm sc t it = some i) (env : PySem.Env) : ∀ y, foldedSetIterable it env y = pure y := by
  intro y
  cases n with
  | zero => simp [cI] at h
  | succ n =>
    cases it <;> first | rfl | skip
    simp only [cI, rangeArgs, enumArg] at h
    cases n <;> simp [cE] at h
theorem l_mth {g : G} {k n : Nat} {cm : Bool} {sc : Scope} {X : Cx} {p : Pm} {o a : Expr} {m : Str} {q : Mt} {x y : E} {ap pos : Pos} (ok : OkX g k cm sc X p) (hm : mtOf m = some q) (hl : (ap.endLine == pos.line) = true) (hx : cE g n cm sc o = some x) (hy : cE g n cm sc a = some y)
    (ha : PE X o (tE p x)) (hb : PE X a (tE p y)) : PE X (.Call (.Attribute o m ap) [a] [] pos) (tE p (.mth q x y)) := by
  have hu : X.A.units + 65 < cLine := by have := ok.un; omega
  have e : m = mtName q := by
    unfold mtOf at hm
    repeat' (split at hm <;> (try (rename_i c; simp at c; cases hm; simp [c, mtName]; done)))
    all_goals simp_all
  subst e
  refine PE.imp (pe_bmD ha (pa_cons hb pa_nil (star_of hy [] X.env)) (base_of hx _ _ _) (by rw [star_of hy [] X.env]; rfl) hl (star_of hy [] X.env) rfl) fun σ H Q h => ?_
  obtain ⟨A, env, pre, h⟩ := h
  simp only [evE] at h
  refine ⟨A, env, pre.left, h.bind.mono fun d H1 s h2 v hv => ?_⟩
  split at h2
  · rename_i c
    refine ⟨rM q d, m_D hu hv c, A, env, (pre.same s).right, h2.bind.mono fun e H2 s2 h3 u hu2 => ⟨A, u, e, rfl, pre.tr.same (s.trans s2), Rp.same s2 _ _ hv, hu2, After.aft (p := p) (σ := σ) evMt_nx h3⟩⟩
  · exact h2.elim
theorem snd_e {g : G} {k n : Nat} (IH : Snd g k n) : ∀ cm sc e ir X p, OkX g k cm sc X p → cE g (n + 1) cm sc e = some ir → PE X e (tE p ir) := by
  intro cm sc e ir X p ok h
  unfold cE at h
  split at h
  · exact l_name ok h
  · cases h; exact PE.imp pe_int fun σ H Q ⟨A, env, pre, q⟩ => q.here _ (.int _)
  · cases h; exact PE.imp pe_str fun σ H Q ⟨A, env, pre, q⟩ => q.here _ (.str _)
  · cases h; exact PE.imp pe_bl fun σ H Q ⟨A, env, pre, q⟩ => q.here _ (.bl _)
  · cases h; exact PE.imp pe_non fun σ H Q ⟨A, env, pre, q⟩ => q.here _ .non
  · simp only [Option.map_eq_some_iff] at h
    obtain ⟨x, hx, rfl⟩ := h
    exact l_not (IH.e _ _ _ _ _ _ ok hx)
  · simp only [Option.map_eq_some_iff] at h
    obtain ⟨x, hx, rfl⟩ := h
    exact l_neg (IH.e _ _ _ _ _ _ ok hx)
  · exact (IH.an _ _ _ _ _ _ _ _ ok h).1
  · exact (IH.or _ _ _ _ _ _ _ _ ok h).1
  · simp only [Option.bind_eq_some_iff, Option.map_eq_some_iff] at h
    obtain ⟨o, ho, x, hx, y, hy, rfl⟩ := h
    exact l_op ho (IH.e _ _ _ _ _ _ ok hx) (IH.e _ _ _ _ _ _ ok hy)
  · simp only [Option.map_eq_some_iff] at h
    obtain ⟨x, hx, rfl⟩ := h
    exact (l_isN (IH.e _ _ _ _ _ _ ok hx)).1
  · simp only [Option.map_eq_some_iff] at h
    obtain ⟨x, hx, rfl⟩ := h
    exact (l_notN (IH.e _ _ _ _ _ _ ok hx)).1
  · simp only [Option.map_eq_some_iff] at h
    obtain ⟨x, hx, rfl⟩ := h
    exact (l_isB (IH.e _ _ _ _ _ _ ok hx)).1
  · simp only [Option.map_eq_some_iff] at h
    obtain ⟨x, hx, rfl⟩ := h
    exact (l_notB (IH.e _ _ _ _ _ _ ok hx)).1
  · split at h
    · rename_i neg l hcst
      simp only [Option.map_eq_some_iff] at h
      obtain ⟨x, hx, rfl⟩ := h
      exact (l_cst ok hcst (IH.e _ _ _ _ _ _ ok hx)).1
    · simp only [Option.bind_eq_some_iff, Option.map_eq_some_iff] at h
      obtain ⟨x, hx, r, hr, rfl⟩ := h
      rename_i a ops cs pos _ _ _ _ _ _
      obtain ⟨g1, g2, g3⟩ := IH.c _ _ _ _ _ _ _ ok hr
      refine ⟨fun pins s σ H Q I q => ?_⟩
      show wpAny _ _ (do compareChain pos (← eval a X.env) ops (markedEach ops cs (evalEach cs X.env))) _ _ s
      rw [markedEach_of_false _ _ _ g1]
      obtain ⟨A, env, pre, q⟩ := q
      simp only [evE] at q
      have pre' : Pre p (x.vars ++ r.vars) A env σ H := pre
      exact wpAny_bind (thn ((IH.e _ _ _ _ _ _ ok hx).run pins s σ H (fun v H1 => tCh p r v σ H1 Q) I ⟨A, env, pre'.left, q.bind.mono fun d H1 s1 q2 v hv => ⟨A, env, d, (pre'.same s1).right, hv, q2⟩⟩) fun v s1 ⟨y, H1, I1, r1, q1⟩ => g2 pos pins s1 σ H1 y v Q I1 r1 q1)
  · split at h
    · rename_i c
      simp only [Option.map_eq_some_iff] at h
      obtain ⟨x, hx, rfl⟩ := h
      exact l_tup c hx (IH.es _ _ _ _ _ _ ok hx)
    · cases h
  · split at h
    · rename_i c
      simp only [Option.map_eq_some_iff] at h
      obtain ⟨x, hx, rfl⟩ := h
      exact l_lst c hx (IH.es _ _ _ _ _ _ ok hx)
    · cases h
  · simp only [Option.map_eq_some_iff] at h
    obtain ⟨x, hx, rfl⟩ := h
    exact l_rev (IH.e _ _ _ _ _ _ ok hx)
  · simp only [Option.bind_eq_some_iff, Option.map_eq_some_iff] at h
    obtain ⟨x, hx, l, hl, u, hu, rfl⟩ := h
    exact l_sl (IH.e _ _ _ _ _ _ ok hx) (IH.o _ _ _ _ _ _ ok hl) (IH.o _ _ _ _ _ _ ok hu)
  · cases h
  · simp only [Option.bind_eq_some_iff, Option.map_eq_some_iff] at h
    obtain ⟨x, hx, y, hy, rfl⟩ := h
    rename_i hs
    exact l_ix (by have := ok.un; omega) (IH.e _ _ _ _ _ _ ok hx) (IH.e _ _ _ _ _ _ ok hy) fun a b c d e => hs a b c d e
  · rename_i f p0 args pos
    split at h
    · cases h
    rename_i hgd
    simp only [Bool.or_eq_true, not_or, Bool.not_eq_true', Bool.not_eq_false, Bool.not_eq_true] at hgd
    obtain ⟨hg, hd⟩ := hgd
    split at h
    · rename_i m hf
      split at h
      · rename_i c
        simp only [Bool.and_eq_true, Bool.not_eq_true', beq_iff_eq] at c
        obtain ⟨⟨rfl, c2⟩, c3⟩ := c
        simp only [Option.map_eq_some_iff] at h
        obtain ⟨x, hx, rfl⟩ := h
        cases args with
        | nil => cases c3
        | cons e es => exact l_call ok hg hd hf c2 hx (IH.es _ _ _ _ _ _ ok hx)
      · cases h
    · split at h
      · rename_i a
        split at h
        · rename_i b hset
          split at h
          · rename_i c
            simp only [Bool.and_eq_true, beq_iff_eq] at c
            obtain ⟨rfl, rfl⟩ := c
            simp only [Option.map_eq_some_iff] at h
            obtain ⟨x, hx, rfl⟩ := h
            obtain ⟨p1, pos1, rfl, hg2⟩ := isSetCall_some hset
            exact l_lenSet ok hg hg2 hx (IH.e _ _ _ _ _ _ ok hx)
          · split at h
            · rename_i c
              simp only [Bool.and_eq_true, beq_iff_eq] at c
              obtain ⟨rfl, rfl⟩ := c
              simp only [Option.map_eq_some_iff] at h
              obtain ⟨x, hx, rfl⟩ := h
              obtain ⟨p1, pos1, rfl, hg2⟩ := isSetCall_some hset
              exact l_sortSet ok hg hg2 hx (IH.e _ _ _ _ _ _ ok hx)
            · cases h
        · split at h
          · rename_i b hrg
            obtain ⟨p1, pos1, rfl, hg2⟩ := rangeArgs_some hrg
            split at h
            · cases h
            rename_i hcm
            simp only [Bool.not_eq_true', Bool.not_eq_false] at hcm
            subst hcm
            split at h
            · rename_i c
              simp only [beq_iff_eq] at c
              subst c
              simp only [Option.map_eq_some_iff] at h
              obtain ⟨x, hx, rfl⟩ := h
              refine PE.imp (pe_listRg ok.cal (gl_of ok.sc hg) (blt_of ok (by decide)) (prg1 ok hg2 hx (IH.e _ _ _ _ _ _ ok hx)) rfl) fun σ H Q q => (bi1 q).mono fun v H' s ⟨A, d, tr, hr, q⟩ => ?_
              cases hr with
              | int j =>
                obtain ⟨c, q⟩ := q.ite
                obtain ⟨c1, c2⟩ := rg_ok c
                exact ⟨j, rfl, c1, fun t ht => q.of _ _ (same_upd ht) (Rp.newL tr ht c2 (rgV_rp 0 j))⟩
              | _ => exact q.st
            · split at h
              · rename_i c
                simp only [beq_iff_eq] at c
                subst c
                simp only [Option.map_eq_some_iff] at h
                obtain ⟨x, hx, rfl⟩ := h
                refine PE.imp (pe_tupRgN ok.cal (gl_of ok.sc hg) (blt_of ok (by decide)) (prg1 ok hg2 hx (IH.e _ _ _ _ _ _ ok hx)) rfl) fun σ H Q q => (bi1 q).mono fun v H' s ⟨A, d, tr, hr, q⟩ => ?_
                cases hr with
                | int j =>
                  obtain ⟨c, q⟩ := q.ite
                  obtain ⟨c1, c2⟩ := rg_ok c
                  exact ⟨j, rfl, c1, fun t o ht hd => q.of _ _ (same_upd ht) (Rp.newT tr ht hd c2 (rgV_rp 0 j))⟩
                | _ => exact q.st
              · cases h
          · rename_i b c0 hrg
            obtain ⟨p1, pos1, rfl, hg2⟩ := rangeArgs_some hrg
            split at h
            · cases h
            rename_i hcm
            simp only [Bool.not_eq_true', Bool.not_eq_false] at hcm
            subst hcm
            simp only [Option.bind_eq_some_iff] at h
            obtain ⟨x, hx, y, hy, h⟩ := h
            split at h
            · rename_i c
              simp only [beq_iff_eq] at c
              subst c
              cases h
              refine PE.imp (pe_listRg ok.cal (gl_of ok.sc hg) (blt_of ok (by decide)) (prg2 ok hg2 hx (IH.e _ _ _ _ _ _ ok hx) hy (IH.e _ _ _ _ _ _ ok hy)) rfl) fun σ H Q q => (bi2 q).mono fun v H' s q2 => q2.mono fun u H2 s2 ⟨A, d, e, tr, hr, he, q⟩ => ?_
              cases hr with
              | int i => cases he with
                | int j =>
                  obtain ⟨c, q⟩ := q.ite
                  obtain ⟨c1, c2⟩ := rg_ok c
                  exact ⟨i, j, rfl, rfl, c1, fun t ht => q.of _ _ (same_upd ht) (Rp.newL tr ht c2 (rgV_rp i j))⟩
                | _ => exact q.st
              | _ => cases he <;> exact q.st
            · split at h
              · rename_i c
                simp only [beq_iff_eq] at c
                subst c
                cases h
                refine PE.imp (pe_tupRgN ok.cal (gl_of ok.sc hg) (blt_of ok (by decide)) (prg2 ok hg2 hx (IH.e _ _ _ _ _ _ ok hx) hy (IH.e _ _ _ _ _ _ ok hy)) rfl) fun σ H Q q => (bi2 q).mono fun v H' s q2 => q2.mono fun u H2 s2 ⟨A, d, e, tr, hr, he, q⟩ => ?_
                cases hr with
                | int i => cases he with
                  | int j =>
                    obtain ⟨c, q⟩ := q.ite
                    obtain ⟨c1, c2⟩ := rg_ok c
                    exact ⟨i, j, rfl, rfl, c1, fun t o ht hd => q.of _ _ (same_upd ht) (Rp.newT tr ht hd c2 (rgV_rp i j))⟩
                  | _ => exact q.st
                | _ => cases he <;> exact q.st
              · cases h
          · cases h
          · split at h
            · rename_i b hb
              split at h
              · rename_i c
                subst c
                simp only [Option.map_eq_some_iff] at h
                obtain ⟨x, hx, rfl⟩ := h
                exact l_bi ok hg hb hx (IH.e _ _ _ _ _ _ ok hx)
              · cases h
            · split at h
              · rename_i b hb
                simp only [Option.map_eq_some_iff] at h
                obtain ⟨x, hx, rfl⟩ := h
                exact l_ty ok hg hb hx (IH.e _ _ _ _ _ _ ok hx)
              · cases h
      · split at h
        · rename_i c
          simp only [beq_iff_eq] at c
          subst c
          split at h
          · rename_i b hk
            simp only [Option.map_eq_some_iff] at h
            obtain ⟨x, hx, rfl⟩ := h
            obtain ⟨y, py, rfl, hgy, hy⟩ := kindB_some hk
            have ha := IH.e _ _ _ _ _ _ ok hx
            have go : ∀ (hb : b = .isInt ∨ b = .isStr ∨ b = .isBool ∨ b = .isTup) (hm : X.mg y = none) (hv : bootBuiltins y = some (.type (kTy b))) (hn : y ≠ "__name__") (hdy : (y == ("__debug__" : Str)) = false), PE X (.Call (.Name "isinstance" p0) [_, .Name y py] [] pos) (tE p (.bi b (.cons x .nil))) := fun hb hm hv hn hdy =>
              PE.imp (pe_callB (isi_D hb) (gl_of ok.sc hg) (blt_of ok (by decide)) PyProof.Rows.boot_isinstance (pa_cons ha (pa_cons (pe_bltn (v := .ty (kTy b)) (gl_of ok.sc hgy) hm hv rfl hn hdy) pa_nil rfl) (star_of hx [.Name y py] X.env)) (by decide) (by decide) (star_of hx [.Name y py] X.env) rfl) fun σ H Q q => (bi1 q).mono fun v H' s ⟨A, d, tr, hr, q⟩ => ⟨A, d, v, rfl, tr, hr, q⟩
            rcases hy with ⟨rfl, rfl⟩ | ⟨rfl, rfl⟩ | ⟨rfl, rfl⟩ | ⟨rfl, rfl⟩
            · exact go (.inl rfl) (blt_of ok (by decide)) PyProof.Rows.boot_int (by decide) (by decide)
            · exact go (.inr (.inl rfl)) (blt_of ok (by decide)) PyProof.Rows.boot_str (by decide) (by decide)
            · exact go (.inr (.inr (.inl rfl))) (blt_of ok (by decide)) (by decide +kernel) (by decide) (by decide)
            · exact go (.inr (.inr (.inr rfl))) (blt_of ok (by decide)) PyProof.Rows.boot_tuple (by decide) (by decide)
          · simp only [Option.map_eq_some_iff] at h
            obtain ⟨⟨i, c⟩, hc, rfl⟩ := h
            exact l_isx (f := "isinstance") ok hg hc
        · split at h
          · rename_i b hb
            split at h
            · rename_i c
              subst c
              simp only [Option.bind_eq_some_iff, Option.map_eq_some_iff] at h
              obtain ⟨x, hx, y, hy, rfl⟩ := h
              have ha := IH.e _ _ _ _ _ _ ok hx
              have hbb := IH.e _ _ _ _ _ _ ok hy
              rcases biOf_two hb with ⟨rfl, rfl⟩ | ⟨rfl, rfl⟩
              · exact l_bi2 ok hg (by decide) PyProof.Rows.boot_min (by decide) (by decide) (c_min2 ok.cal) hx hy ha hbb
              · exact l_bi2 ok hg (by decide) PyProof.Rows.boot_max (by decide) (by decide) (c_max2 ok.cal) hx hy ha hbb
            · cases h
          · cases h
      · cases h
  · rename_i o m ap a pos
    split at h
    · cases h
    rename_i hl
    simp only [Bool.not_eq_true', Bool.not_eq_false] at hl
    split at h
    · rename_i ys ht
      simp only [Option.map_eq_some_iff] at h
      obtain ⟨y, hy, rfl⟩ := h
      exact l_tix ht hl hy (IH.e _ _ _ _ _ _ ok hy)
    simp only [Option.bind_eq_some_iff, Option.map_eq_some_iff] at h
    obtain ⟨q, hm, x, hx, y, hy, rfl⟩ := h
    exact l_mth ok hm hl hx hy (IH.e _ _ _ _ _ _ ok hx) (IH.e _ _ _ _ _ _ ok hy)
  · rename_i elt t it ifs scope pos
    split at h
    · cases h
    rename_i hb
    simp only [Bool.or_eq_true, not_or, Bool.not_eq_true', Bool.not_eq_false] at hb
    obtain ⟨rfl, hb⟩ := hb
    simp only [Option.bind_eq_some_iff] at h
    obtain ⟨i, hi, tt, htt, h⟩ := h
    split at h
    · cases h
    rename_i hids
    simp only [Bool.not_eq_true', Bool.not_eq_false] at hids
    simp only [Option.bind_eq_some_iff, Option.map_eq_some_iff] at h
    obtain ⟨c, hc, x, hx, rfl⟩ := h
    exact l_lc ok hb (IH.i _ _ _ _ _ _ _ ok hi) htt hids (fold_of hi X.env) (fun X' ok' => IH.f _ _ _ _ _ _ ok' hc) (fun X' ok' => IH.e _ _ _ _ _ _ ok' hx)
  · rename_i kx vx t it scope pos
    split at h
    · cases h
    rename_i hb
    simp only [Bool.or_eq_true, not_or, Bool.not_eq_true', Bool.not_eq_false] at hb
    obtain ⟨rfl, hb⟩ := hb
    simp only [Option.bind_eq_some_iff] at h
    obtain ⟨i, hi, tt, htt, h⟩ := h
    split at h
    · cases h
    rename_i hids
    simp only [Bool.not_eq_true', Bool.not_eq_false] at hids
    simp only [Option.bind_eq_some_iff, Option.map_eq_some_iff] at h
    obtain ⟨y, hy, x, hx, rfl⟩ := h
    have hc : cF g n true (relS scope sc) [] = some .no := by
      cases n with
      | zero => simp [cE] at hy
      | succ n => rfl
    exact l_dc ok hb (IH.i _ _ _ _ _ _ _ ok hi) htt hids (fold_of hi X.env) (fun X' ok' => IH.f _ _ _ _ _ _ ok' hc) (fun X' ok' => IH.e _ _ _ _ _ _ ok' hy) (fun X' ok' => IH.e _ _ _ _ _ _ ok' hx)
  · cases h
    exact PE.imp l_dsp0 fun σ H Q q => q.f
  · simp only [Option.bind_eq_some_iff, Option.map_eq_some_iff] at h
    obtain ⟨x, hx, y, hy, rfl⟩ := h
    exact PE.imp (l_dsp1 (IH.e _ _ _ _ _ _ ok hx) (IH.e _ _ _ _ _ _ ok hy)) fun σ H Q q => q.f
  · cases h
end PC
set_option Elab.async false
set_option linter.all false
namespace PC
open PySem PySem.Spec PyProof.Rows L2
theorem toB_and {Φ : Phi} {x y : E} {env : Env} : toB (evE Φ (.and x y) env) = (toB (evE Φ x env)).bind fun c => if c then toB (evE Φ y env) else .ok false := by
  simp only [evE]
  cases toB (evE Φ x env) with
  | ok c => cases c with
    | true =>
      show toB ((toB (evE Φ y env)).bind _) = toB (evE Φ y env)
      cases toB (evE Φ y env) <;> rfl
    | false => rfl
  | ex c => rfl
  | st => rfl
theorem toB_or {Φ : Phi} {x y : E} {env : Env} : toB (evE Φ (.or x y) env) = (toB (evE Φ x env)).bind fun c => if c then .ok true else toB (evE Φ y env) := by
  simp only [evE]
  cases toB (evE Φ x env) with
  | ok c => cases c with
    | false =>
      show toB ((toB (evE Φ y env)).bind _) = toB (evE Φ y env)
      cases toB (evE Φ y env) <;> rfl
    | true => rfl
  | ex c => rfl
  | st => rfl
theorem snd_t {g : G} {k n : Nat} (IH : Snd g k n) : ∀ cm sc e ir X p, OkX g k cm sc X p → cE g (n + 1) cm sc e = some ir → PT X e (tT p ir) := by
  intro cm sc e ir X p ok h
  have hv : (∀ whole, isTrue e X.env whole = (do let v ← whole; standAt e.pos; holding [v] (truthy v))) → PT X e (tT p ir) := fun he => PT.imp (pt_val (snd_e IH _ _ _ _ _ _ ok h) he) fun σ H Q q => tT_tE q
  cases e with
  | UnaryOp o a pos =>
    cases o with
    | Not =>
      simp only [cE, Option.map_eq_some_iff] at h
      obtain ⟨x, hx, rfl⟩ := h
      refine PT.imp (pt_not (IH.t _ _ _ _ _ _ ok hx)) fun σ H Q q => ?_
      obtain ⟨A, env, pre, q⟩ := q
      refine ⟨A, env, pre, ?_⟩
      simp only [evE] at q
      cases e : toB (evE p.Φ x env) with
      | ok b => rw [e] at q; exact q
      | ex c => rw [e] at q; exact q
      | st => rw [e] at q; exact q
    | _ => exact hv fun _ => rfl
  | BoolOp o l pos =>
    cases l with
    | nil => cases o <;> simp [cE] at h
    | cons a r => cases o with
      | And => exact ((IH.an _ _ _ _ _ _ _ _ ok (by simpa only [cE] using h)).2).pt
      | Or => exact ((IH.or _ _ _ _ _ _ _ _ ok (by simpa only [cE] using h)).2).pt
  | Compare a ops cs pos =>
    unfold cE at h
    split at h
    all_goals try (rename_i e; cases e; done)
    · rename_i e
      cases e
      simp only [Option.map_eq_some_iff] at h
      obtain ⟨x, hx, rfl⟩ := h
      exact (l_isN (IH.e _ _ _ _ _ _ ok hx)).2
    · rename_i e
      cases e
      simp only [Option.map_eq_some_iff] at h
      obtain ⟨x, hx, rfl⟩ := h
      exact (l_notN (IH.e _ _ _ _ _ _ ok hx)).2
    · rename_i e
      cases e
      simp only [Option.map_eq_some_iff] at h
      obtain ⟨x, hx, rfl⟩ := h
      exact (l_isB (IH.e _ _ _ _ _ _ ok hx)).2
    · rename_i e
      cases e
      simp only [Option.map_eq_some_iff] at h
      obtain ⟨x, hx, rfl⟩ := h
      exact (l_notB (IH.e _ _ _ _ _ _ ok hx)).2
    · rename_i e
      cases e
      split at h
      · rename_i neg l hcst
        simp only [Option.map_eq_some_iff] at h
        obtain ⟨x, hx, rfl⟩ := h
        exact (l_cst ok hcst (IH.e _ _ _ _ _ _ ok hx)).2
      · simp only [Option.bind_eq_some_iff, Option.map_eq_some_iff] at h
        obtain ⟨x, hx, r, hr, rfl⟩ := h
        obtain ⟨g1, g2, g3⟩ := IH.c _ _ _ _ _ _ _ ok hr
        refine ⟨fun pins s σ H Q I q => ?_⟩
        show wpAny _ _ (do testChain pos (← eval a X.env) ops (markedEach ops cs (evalEach cs X.env))) _ _ s
        rw [markedEach_of_false _ _ _ g1]
        obtain ⟨A, env, pre, q⟩ := q
        simp only [evE] at q
        have pre' : Pre p (x.vars ++ r.vars) A env σ H := pre
        have q := q.toB.bind
        refine wpAny_bind (thn ((IH.e _ _ _ _ _ _ ok hx).run pins s σ H (fun v H1 => tChT p r v σ H1 Q) I ⟨A, env, pre'.left, q.mono fun d H1 s1 q2 v hv => ⟨A, env, d, (pre'.same s1).right, hv, ?_⟩⟩) fun v s1 ⟨y, H1, I1, r1, q1⟩ => g3 pos pins s1 σ H1 y v Q I1 r1 q1)
        cases e : evC p.Φ r d env with
        | ok e2 =>
          rw [e] at q2
          obtain ⟨b, rfl, q3⟩ := q2.here
          exact fun H2 s2 => by
            obtain ⟨b', e', q4⟩ := q2 H2 s2
            cases e'
            exact q4
        | ex c => rw [e] at q2; exact q2
        | st => rw [e] at q2; exact q2
    · cases h
  | IfExp a b c pos => simp [cE] at h
  | _ => exact hv fun _ => rfl
theorem snd_an {g : G} {k n : Nat} (IH : Snd g k n) : ∀ cm sc a r pos ir X p, OkX g k cm sc X p → cAnd g (n + 1) cm sc a r = some ir → PE X (.BoolOp .And (a :: r) pos) (tE p ir) ∧ PW X (.BoolOp .And (a :: r) pos) (tT p ir) := by
  intro cm sc a r pos ir X p ok h
  cases r with
  | nil =>
    simp only [cAnd] at h
    exact ⟨pe_one (IH.e _ _ _ _ _ _ ok h), pw_and1 (IH.t _ _ _ _ _ _ ok h)⟩
  | cons b r =>
    simp only [cAnd, Option.bind_eq_some_iff, Option.map_eq_some_iff] at h
    obtain ⟨x, hx, y, hy, rfl⟩ := h
    obtain ⟨h1, h2⟩ := IH.an _ _ _ _ pos _ _ _ ok hy
    refine ⟨PE.imp (pe_and (IH.e _ _ _ _ _ _ ok hx) h1) fun σ H Q q => ?_, PW.imp (pw_and (IH.t _ _ _ _ _ _ ok hx) h2) fun σ H Q q => ?_⟩
    · obtain ⟨A, env, pre, q⟩ := q
      simp only [evE] at q
      have pre' : Pre p (x.vars ++ y.vars) A env σ H := pre
      refine ⟨A, env, pre'.left, q.bind.toB.mono fun d H1 s q v hv => ?_⟩
      obtain ⟨b, rfl, q⟩ := q
      cases hv
      refine ⟨b, rfl, ?_⟩
      cases b with
      | false => exact q.here _ (.bl _)
      | true =>
        have q : After p σ H1 ((toB (evE p.Φ y env)).bind fun e => .ok (.bool e)) (kD A Q) := q
        exact ⟨A, env, (pre'.same s).right, q.bind.toB.mono fun d H2 s2 ⟨b, e, q⟩ => by subst e; exact q.here⟩
    · obtain ⟨A, env, pre, q⟩ := q
      have pre' : Pre p (x.vars ++ y.vars) A env σ H := pre
      rw [toB_and] at q
      refine ⟨A, env, pre'.left, q.bind.mono fun c H1 s q => ?_⟩
      cases c with
      | true => exact ⟨A, env, (pre'.same s).right, q⟩
      | false => exact q.here
theorem snd_or {g : G} {k n : Nat} (IH : Snd g k n) : ∀ cm sc a r pos ir X p, OkX g k cm sc X p → cOr g (n + 1) cm sc a r = some ir → PE X (.BoolOp .Or (a :: r) pos) (tE p ir) ∧ PW X (.BoolOp .Or (a :: r) pos) (tT p ir) := by
  intro cm sc a r pos ir X p ok h
  cases r with
  | nil =>
    simp only [cOr] at h
    exact ⟨pe_one (IH.e _ _ _ _ _ _ ok h), pw_or1 (IH.t _ _ _ _ _ _ ok h)⟩
  | cons b r =>
    simp only [cOr, Option.bind_eq_some_iff, Option.map_eq_some_iff] at h
    obtain ⟨x, hx, y, hy, rfl⟩ := h
    obtain ⟨h1, h2⟩ := IH.or _ _ _ _ pos _ _ _ ok hy
    refine ⟨PE.imp (pe_or (IH.e _ _ _ _ _ _ ok hx) h1) fun σ H Q q => ?_, PW.imp (pw_or (IH.t _ _ _ _ _ _ ok hx) h2) fun σ H Q q => ?_⟩
    · obtain ⟨A, env, pre, q⟩ := q
      simp only [evE] at q
      have pre' : Pre p (x.vars ++ y.vars) A env σ H := pre
      refine ⟨A, env, pre'.left, q.bind.toB.mono fun d H1 s q v hv => ?_⟩
      obtain ⟨b, rfl, q⟩ := q
      cases hv
      refine ⟨b, rfl, ?_⟩
      cases b with
      | true => exact q.here _ (.bl _)
      | false =>
        have q : After p σ H1 ((toB (evE p.Φ y env)).bind fun e => .ok (.bool e)) (kD A Q) := q
        exact ⟨A, env, (pre'.same s).right, q.bind.toB.mono fun d H2 s2 ⟨b, e, q⟩ => by subst e; exact q.here⟩
    · obtain ⟨A, env, pre, q⟩ := q
      have pre' : Pre p (x.vars ++ y.vars) A env σ H := pre
      rw [toB_or] at q
      refine ⟨A, env, pre'.left, q.bind.mono fun c H1 s q => ?_⟩
      cases c with
      | false => exact ⟨A, env, (pre'.same s).right, q⟩
      | true => exact q.here
theorem snd {g : G} {k : Nat} : ∀ n, Snd g k n
  | 0 => ⟨fun _ _ _ _ _ _ _ h => by simp [cE] at h, fun _ _ _ _ _ _ _ h => by simp [cE] at h, fun _ _ _ _ _ _ _ _ _ h => by simp [cAnd] at h, fun _ _ _ _ _ _ _ _ _ h => by simp [cOr] at h, fun _ _ _ _ _ _ _ h => by simp [cEs] at h,
    fun _ _ _ _ _ _ _ _ h => by simp [cC] at h, fun _ _ _ _ _ _ _ h => by simp [cO] at h, fun _ _ _ _ _ _ _ h => by simp [cF] at h, fun _ _ _ _ _ _ _ _ h => by simp [cI] at h⟩
  | n + 1 => ⟨snd_e (snd n), snd_t (snd n), snd_an (snd n), snd_or (snd n), snd_es (snd n), snd_c (snd n), snd_o (snd n), snd_f (snd n), snd_i (snd n)⟩
section
variable {g : G} {k n : Nat} {cm : Bool} {sc : Scope} {X : Cx} {p : Pm}
theorem l_lstF {es : List Expr} {x : Es} {pos : Pos} (c : es.length ≤ 1000) (hx : cEs g n cm sc es = some x) (ha : PA X es (tEs p x)) : PE X (.List es pos) (tEf p (.lst x)) := by
  refine PE.imp (pe_lst ha) fun σ H Q q => ?_
  obtain ⟨A, env, pre, q⟩ := q
  refine ⟨A, env, pre, ?_⟩
  simp only [evE] at q
  cases e : evs p.Φ x env with
  | ok l =>
    rw [e] at q
    have hl := evs_len hx e
    intro H' s vs hvs
    have hz : vs.length ≤ sizeLine := by rw [hvs.length, hl, sizeLine_eq]; omega
    exact ⟨hz, fun t ht => q (upd H' t (.lst vs)) (s.trans (same_upd ht)) _ (Rp.newL (pre.tr.same s) ht hz hvs) (topNew s ht hz hvs)⟩
  | ex c => rw [e] at q; exact q
  | st => rw [e] at q; exact q
def rListF : List V → Hp → VK → Prop := fun vs H Q => ∃ A a x l, vs = [x] ∧ Trk A H ∧ Rp A H x a ∧ evBi .list [a] = .ok (.list l) ∧ ∀ v H', Same H H' → Rp A H' v (.list l) → TopNew A H H' v (.list l) → Q v H'
theorem c_listF : CallR X (.type "list") rListF := by
  intro pins s σ H xs us Q I r h
  obtain ⟨A, a, x, l, rfl, tr, ha, he, hq⟩ := h
  cases ha with
  | lst n h z ra =>
    cases he
    exact call_list_of pins s σ H _ us Q I r ⟨_, _, rfl, .inl (.inl h), fun l hl => hq _ _ (same_upd hl) (Rp.newL tr hl z ra) (topNew (Same.refl H) hl z ra)⟩
  | tup n h z ra =>
    cases he
    exact call_list_of pins s σ H _ us Q I r ⟨_, _, rfl, .inr h.sq, fun l hl => hq _ _ (same_upd hl) (Rp.newL tr hl z ra) (topNew (Same.refl H) hl z ra)⟩
  | _ => cases he
theorem TopNew.back {A : Addr → Prop} {H H1 H' : Hp} {v : V} {d : D} (s : Same H H1) (h : TopNew A H1 H' v d) : TopNew A H H' v d := by
  refine ⟨fun ds e => ?_, fun ds e => ?_⟩
  · obtain ⟨a, xs, e1, e2, e3⟩ := h.1 ds e
    exact ⟨a, xs, e1, s.free e2, e3⟩
  · obtain ⟨a, e1, e2, e3⟩ := h.2 ds e
    exact ⟨a, e1, s.free e2, e3⟩
theorem bi1F {b : Bi} {x : E} {σ : L2.St} {H : Hp} {Q : VK} (q : tEf p (.bi b (.cons x .nil)) σ H Q) : tE p x σ H fun v H1 => ∃ A a r, Trk A H1 ∧ Rp A H1 v a ∧ evBi b [a] = .ok r ∧ ∀ u H', Same H1 H' → Rp A H' u r → TopNew A H1 H' u r → Q u H' := by
  obtain ⟨A, env, pre, q⟩ := q
  simp only [evE, evs] at q
  refine ⟨A, env, pre.left, ?_⟩
  cases e : evE p.Φ x env with
  | ok a =>
    rw [e] at q
    intro H1 s1 v hv
    have q : After p σ H (evBi b [a]) _ := q
    cases e2 : evBi b [a] with
    | ok r =>
      rw [e2] at q
      exact ⟨A, a, r, pre.tr.same s1, hv, e2, fun u H' s2 hu tn => q H' (s1.trans s2) u hu (tn.back s1)⟩
    | ex c => exact absurd e2 (evBi_nx c)
    | st => rw [e2] at q; exact q.elim
  | ex c => rw [e] at q; exact q
  | st => rw [e] at q; exact q
theorem bi2F {b : Bi} {x y : E} {σ : L2.St} {H : Hp} {Q : VK} (q : tEf p (.bi b (.cons x (.cons y .nil))) σ H Q) : tE p x σ H fun v H1 => tE p y σ H1 fun w H2 => ∃ A a c r, Trk A H2 ∧ Rp A H2 v a ∧ Rp A H2 w c ∧ evBi b [a, c] = .ok r ∧ ∀ u H', Same H2 H' → Rp A H' u r → TopNew A H2 H' u r → Q u H' := by
  obtain ⟨A, env, pre, q⟩ := q
  simp only [evE, evs] at q
  refine ⟨A, env, pre.left, ?_⟩
  cases e : evE p.Φ x env with
  | ok a =>
    rw [e] at q
    intro H1 s1 v hv
    refine ⟨A, env, (pre.right.left).same s1, ?_⟩
    cases e3 : evE p.Φ y env with
    | ok c =>
      rw [e3] at q
      intro H2 s2 w hw
      have q : After p σ H (evBi b [a, c]) _ := q
      cases e2 : evBi b [a, c] with
      | ok r =>
        rw [e2] at q
        exact ⟨A, a, c, r, pre.tr.same (s1.trans s2), Rp.same s2 _ _ hv, hw, e2, fun u H' s3 hu tn => q H' ((s1.trans s2).trans s3) u hu (tn.back (s1.trans s2))⟩
      | ex c => exact absurd e2 (evBi_nx c)
      | st => rw [e2] at q; exact q.elim
    | ex c =>
      rw [e3] at q
      exact fun H' s => q H' (s1.trans s)
    | st => rw [e3] at q; exact q
  | ex c => rw [e] at q; exact q
  | st => rw [e] at q; exact q
theorem l_fr (IH : Snd g k n) : ∀ cm sc e ir X p, OkX g k cm sc X p → cE g (n + 1) cm sc e = some ir → frE e = true → ir.fresh = true → PE X e (tEf p ir) := by
  intro cm sc e ir X p ok h hf hir
  unfold frE at hf
  split at hf
  · simp only [cE] at h
    split at h
    · rename_i c
      simp only [Option.map_eq_some_iff] at h
      obtain ⟨x, hx, rfl⟩ := h
      exact l_lstF c hx (IH.es _ _ _ _ _ _ ok hx)
    · cases h
  · unfold cE at h
    split at h
    all_goals try (rename_i e; cases e; done)
    · rename_i e
      cases e
      split at h
      · cases h
      rename_i hb
      simp only [Bool.or_eq_true, not_or, Bool.not_eq_true', Bool.not_eq_false] at hb
      obtain ⟨rfl, hb⟩ := hb
      simp only [Option.bind_eq_some_iff] at h
      obtain ⟨i, hi, tt, htt, h⟩ := h
      split at h
      · cases h
      rename_i hids
      simp only [Bool.not_eq_true', Bool.not_eq_false] at hids
      simp only [Option.bind_eq_some_iff, Option.map_eq_some_iff] at h
      obtain ⟨c, hc, x, hx, rfl⟩ := h
      exact l_lcF ok hb (IH.i _ _ _ _ _ _ _ ok hi) htt hids (fold_of hi X.env) (fun X' ok' => IH.f _ _ _ _ _ _ ok' hc) (fun X' ok' => IH.e _ _ _ _ _ _ ok' hx)
    · cases h
  · unfold cE at h
    split at h
    all_goals try (rename_i e; cases e; done)
    all_goals first
      | (rename_i e; cases e; cases h; exact l_dsp0)
      | (rename_i e; cases e
         simp only [Option.bind_eq_some_iff, Option.map_eq_some_iff] at h
         obtain ⟨x, hx, y, hy, rfl⟩ := h
         exact l_dsp1 (IH.e _ _ _ _ _ _ ok hx) (IH.e _ _ _ _ _ _ ok hy))
      | cases h
  · rename_i kx vx gens scope pos
    unfold cE at h
    split at h
    all_goals try (rename_i e; cases e; done)
    · rename_i e
      cases e
      split at h
      · cases h
      rename_i hb
      simp only [Bool.or_eq_true, not_or, Bool.not_eq_true', Bool.not_eq_false] at hb
      obtain ⟨rfl, hb⟩ := hb
      simp only [Option.bind_eq_some_iff] at h
      obtain ⟨i, hi, tt, htt, h⟩ := h
      split at h
      · cases h
      rename_i hids
      simp only [Bool.not_eq_true', Bool.not_eq_false] at hids
      simp only [Option.bind_eq_some_iff, Option.map_eq_some_iff] at h
      obtain ⟨y, hy, x, hx, rfl⟩ := h
      have hc : cF g n true (relS scope sc) [] = some .no := by
        cases n with
        | zero => simp [cE] at hy
        | succ n => rfl
      exact l_dcF ok hb (IH.i _ _ _ _ _ _ _ ok hi) htt hids (fold_of hi X.env) (fun X' ok' => IH.f _ _ _ _ _ _ ok' hc) (fun X' ok' => IH.e _ _ _ _ _ _ ok' hy) (fun X' ok' => IH.e _ _ _ _ _ _ ok' hx)
    · cases h
  · rename_i f p0 a pos
    simp only [cE] at h
    split at h
    · cases h
    rename_i hgd
    simp only [Bool.or_eq_true, not_or, Bool.not_eq_true', Bool.not_eq_false, Bool.not_eq_true] at hgd
    obtain ⟨hg, hd⟩ := hgd
    split at h
    · split at h
      · simp only [Option.map_eq_some_iff] at h
        obtain ⟨x, hx, rfl⟩ := h
        cases hir
      · cases h
    · split at h
      · split at h
        · simp only [Option.map_eq_some_iff] at h
          obtain ⟨x, hx, rfl⟩ := h
          cases hir
        · split at h
          · simp only [Option.map_eq_some_iff] at h
            obtain ⟨x, hx, rfl⟩ := h
            cases hir
          · cases h
      · split at h
        · rename_i b hrg
          obtain ⟨p1, pos1, rfl, hg2⟩ := rangeArgs_some hrg
          split at h
          · cases h
          rename_i hcm
          simp only [Bool.not_eq_true', Bool.not_eq_false] at hcm
          subst hcm
          split at h
          · rename_i c
            simp only [beq_iff_eq] at c
            subst c
            simp only [Option.map_eq_some_iff] at h
            obtain ⟨x, hx, rfl⟩ := h
            refine PE.imp (pe_listRg ok.cal (gl_of ok.sc hg) (blt_of ok (by decide)) (prg1 ok hg2 hx (IH.e _ _ _ _ _ _ ok hx)) rfl) fun σ H Q q => (bi1F q).mono fun v H' s ⟨A, d, r, tr, hr, he, q⟩ => ?_
            cases hr with
            | int j =>
              simp only [evBi] at he
              split at he
              · rename_i c
                cases he
                obtain ⟨c1, c2⟩ := rg_ok c
                exact ⟨j, rfl, c1, fun t ht => q _ _ (same_upd ht) (Rp.newL tr ht c2 (rgV_rp 0 j)) (topNew (Same.refl _) ht c2 (rgV_rp 0 j))⟩
              · cases he
            | _ => simp [evBi] at he
          · split at h
            · simp only [Option.map_eq_some_iff] at h
              obtain ⟨x, hx, rfl⟩ := h
              cases hir
            · cases h
        · rename_i b c0 hrg
          obtain ⟨p1, pos1, rfl, hg2⟩ := rangeArgs_some hrg
          split at h
          · cases h
          rename_i hcm
          simp only [Bool.not_eq_true', Bool.not_eq_false] at hcm
          subst hcm
          simp only [Option.bind_eq_some_iff] at h
          obtain ⟨x, hx, y, hy, h⟩ := h
          split at h
          · rename_i c
            simp only [beq_iff_eq] at c
            subst c
            cases h
            refine PE.imp (pe_listRg ok.cal (gl_of ok.sc hg) (blt_of ok (by decide)) (prg2 ok hg2 hx (IH.e _ _ _ _ _ _ ok hx) hy (IH.e _ _ _ _ _ _ ok hy)) rfl) fun σ H Q q => (bi2F q).mono fun v H' s q2 => q2.mono fun u H2 s2 ⟨A, d, e, r, tr, hr, hr2, he, q⟩ => ?_
            cases hr with
            | int i => cases hr2 with
              | int j =>
                simp only [evBi] at he
                split at he
                · rename_i c
                  cases he
                  obtain ⟨c1, c2⟩ := rg_ok c
                  exact ⟨i, j, rfl, rfl, c1, fun t ht => q _ _ (same_upd ht) (Rp.newL tr ht c2 (rgV_rp i j)) (topNew (Same.refl _) ht c2 (rgV_rp i j))⟩
                · cases he
              | _ => simp [evBi] at he
            | _ => cases hr2 <;> simp [evBi] at he
          · split at h
            · cases h
              cases hir
            · cases h
        · cases h
        · split at h
          · rename_i b hb
            split at h
            · rename_i c
              subst c
              simp only [Option.map_eq_some_iff] at h
              obtain ⟨x, hx, rfl⟩ := h
              rcases biOf_one hb with ⟨rfl, rfl⟩ | ⟨rfl, rfl⟩ | ⟨rfl, rfl⟩ | ⟨rfl, rfl⟩ | ⟨rfl, rfl⟩ | ⟨rfl, rfl⟩ | ⟨rfl, rfl⟩ | ⟨rfl, rfl⟩ <;> cases hir
            · cases h
          · split at h
            · rename_i b hb
              simp only [Option.map_eq_some_iff] at h
              obtain ⟨x, hx, rfl⟩ := h
              rcases tyOf_one hb with ⟨rfl, rfl⟩ | ⟨rfl, rfl⟩ | ⟨rfl, rfl⟩ | ⟨rfl, rfl⟩
              · cases hir
              · cases hir
              · refine PE.imp (pe_callTy c_listF (gl_of ok.sc hg) (blt_of ok (by decide)) PyProof.Rows.boot_list (pa_cons (IH.e _ _ _ _ _ _ ok hx) pa_nil (star_of hx [] X.env)) (by decide) (by decide) (star_of hx [] X.env) rfl) fun σ H Q q => (bi1F q).mono fun v H' s ⟨A, d, r, tr, hr, he, q⟩ => ?_
                cases hr with
                | lst n h z ra =>
                  have he' := he
                  simp only [evBi] at he'
                  cases he'
                  exact ⟨A, _, _, _, rfl, tr, .lst n h z ra, he, q⟩
                | tup n h z ra =>
                  have he' := he
                  simp only [evBi] at he'
                  cases he'
                  exact ⟨A, _, _, _, rfl, tr, .tup n h z ra, he, q⟩
                | _ => simp [evBi] at he
              · cases hir
            · cases h
  · cases hf
end
end PC
set_option Elab.async false
set_option linter.all false
namespace PC
open PySem PySem.Spec PyProof.Rows L2
def Av (A : Addr → Prop) (env : Env) (ow : Nat → Addr) : Addr → Prop := fun a => A a ∨ ∃ i d, geti env i = .o d ∧ ow i = a
def AvS (A : Addr → Prop) (env : Env) (ow : Nat → Addr) (S : List Nat) : Addr → Prop := fun a => A a ∨ ∃ i d, geti env i = .o d ∧ i ∉ S ∧ ow i = a
/-- what stands at an owned address -/
inductive OwnR (B : Addr → Prop) (H : Hp) (a : Addr) : HO → D → Prop
  | lst {xs : List V} {ds : List D} : xs.length ≤ sizeLine → RpA B H xs ds → OwnR B H a (.lst xs) (.list ds)
  | dct {ks : List (Key × V)} {kvs : List (D × D)} : ks.length ≤ sizeLine → RpK B H ks kvs → OwnR B H a (.dK ks) (.dict kvs)
  | dtt {ks : List TK} {kvs : List (D × D)} : ks ≠ [] → RpT B H ks kvs → OwnR B H a (dTX a ks) (.dict kvs)
section
variable {A B : Addr → Prop} {H H' : Hp} {o : HO} {d : D} {a : Addr}
theorem OwnR.less (s : ∀ a, B a → A a) (h : OwnR A H a o d) : OwnR B H a o d := by
  cases h with
  | lst z r => exact .lst z (RpA.less s _ _ r)
  | dct z r => exact .dct z (RpK.less s _ _ r)
  | dtt z r => exact .dtt z (RpT.less s _ _ r)
theorem OwnR.same (s : Same H H') (h : OwnR A H a o d) : OwnR A H' a o d := by
  cases h with
  | lst z r => exact .lst z (RpA.same s _ _ r)
  | dct z r => exact .dct z (RpK.same s _ _ r)
  | dtt z r => exact .dtt z (RpT.same s _ _ r)
theorem OwnR.keep (s : Keep A H H') (hb : ∀ a, B a → A a ∨ H a = none) (h : OwnR A H a o d) : OwnR B H' a o d := by
  cases h with
  | lst z r => exact .lst z (RpA.keep s hb _ _ r)
  | dct z r => exact .dct z (RpK.keep s hb _ _ r)
  | dtt z r => exact .dtt z (RpT.keep s hb _ _ r)
theorem OwnR.mutO (h : OwnR A H a o d) (e : H a = some o) : MutO H a := by
  cases h with
  | lst z r => exact .inl ⟨_, e⟩
  | dct z r => exact .inr (.inl ⟨_, e⟩)
  | dtt z r => exact .inr (.inr ⟨_, e⟩)
theorem OwnR.rp (h : OwnR A H a o d) (e : H a = some o) (n : ¬ A a) : Rp A H (.ref a) d := by
  cases h with
  | lst z r => exact .lst n (.inl e) z r
  | dct z r => exact .dct n (.inl e) r
  | dtt z r => exact .dtt n e z r
end
structure SRo (p : Pm) (H0 : Hp) (A : Addr → Prop) (env : Env) (σ : L2.St) (H : Hp) (ow : Nat → Addr) : Prop where
  same : Same H0 H
  dom : ∀ a, A a → H0 a ≠ none
  len : σ.length = p.nl
  elen : env.length = p.nl
  own : ∀ i d, geti env i = .o d → σ[i]? = some (some (.ref (ow i))) ∧ H0 (ow i) = none ∧ ∃ o, H (ow i) = some o ∧ OwnR (Av A env ow) H (ow i) o d
  inj : ∀ i j d e, geti env i = .o d → geti env j = .o e → ow i = ow j → i = j
  frz : ∀ i d, geti env i = .f d → ∃ v, σ[i]? = some (some v) ∧ Rp (Av A env ow) H v d
  xs : XS p.sx env σ
  inv : ∀ i a, p.pin = some (i, a) → σ[i]? = some (some (.ref a))
def SR (p : Pm) (H0 : Hp) (A : Addr → Prop) (env : Env) (σ : L2.St) (H : Hp) : Prop := ∃ ow, SRo p H0 A env σ H ow
section
variable {p : Pm} {H0 H0' H H' : Hp} {A : Addr → Prop} {env : Env} {σ : L2.St} {ow : Nat → Addr} {i : Nat} {d : D} {v : V}
theorem SRo.tr (h : SRo p H0 A env σ H ow) (S : List Nat) : Trk (AvS A env ow S) H := fun a q => by
  rcases q with q | ⟨i, d, e, _, rfl⟩
  · exact (Trk.same h.dom h.same) a q
  · obtain ⟨_, _, o, e2, _⟩ := h.own i d e
    rw [e2]; simp
theorem SRo.trA (h : SRo p H0 A env σ H ow) : Trk (Av A env ow) H := fun a q => by
  rcases q with q | ⟨i, d, e, rfl⟩
  · exact (Trk.same h.dom h.same) a q
  · obtain ⟨_, _, o, e2, _⟩ := h.own i d e
    rw [e2]; simp
theorem avS_sub {S : List Nat} {a : Addr} (h : AvS A env ow S a) : Av A env ow a := by
  rcases h with h | ⟨i, d, e, _, q⟩
  · exact .inl h
  · exact .inr ⟨i, d, e, q⟩
theorem SRo.pre (h : SRo p H0 A env σ H ow) (S : List Nat) : Pre p S (AvS A env ow S) env σ H := by
  refine ⟨h.tr S, fun i hi d hd => ?_, h.xs, h.len⟩
  cases e : geti env i with
  | o d' =>
    rw [e] at hd
    cases hd
    obtain ⟨e1, e0, o, e2, r⟩ := h.own i _ e
    refine ⟨_, e1, (r.less fun a q => avS_sub q).rp e2 fun q => ?_⟩
    rcases q with q | ⟨j, d2, e3, n, q⟩
    · exact h.dom _ q e0
    · exact n (by rw [h.inj j i _ _ e3 e q]; exact hi)
  | f d' =>
    rw [e] at hd
    cases hd
    obtain ⟨v, e1, r⟩ := h.frz i _ e
    exact ⟨v, e1, Rp.less (fun a q => avS_sub q) _ _ r⟩
  | u => rw [e] at hd; cases hd
  | x c => rw [e] at hd; cases hd
theorem SRo.sameH (h : SRo p H0 A env σ H ow) (s : Same H H') : SRo p H0 A env σ H' ow where
  same := h.same.trans s
  dom := h.dom
  len := h.len
  elen := h.elen
  own := fun i d e => by
    obtain ⟨e1, e0, o, e2, r⟩ := h.own i d e
    exact ⟨e1, e0, o, s _ _ e2, r.same s⟩
  inj := h.inj
  frz := fun i d e => by
    obtain ⟨v, e1, r⟩ := h.frz i d e
    exact ⟨v, e1, Rp.same s _ _ r⟩
  xs := h.xs
  inv := h.inv
theorem SR.sameH (h : SR p H0 A env σ H) (s : Same H H') : SR p H0 A env σ H' := h.imp fun _ h => h.sameH s
theorem geti_frzS (vs : List Nat) : ∀ (env : Env) (k i : Nat), geti (frzS vs k env) i = match geti env i with
    | .o d => if vs.contains (k + i) then .f d else .o d
    | s => s
  | [], k, i => by simp [frzS, geti]
  | s :: r, k, 0 => by cases s <;> simp [frzS, geti]
  | s :: r, k, i + 1 => by
    have e := geti_frzS vs r (k + 1) i
    have e2 : k + 1 + i = k + (i + 1) := by omega
    rw [e2] at e
    cases s <;> simpa [frzS, geti] using e
theorem frzS_length (vs : List Nat) : ∀ (env : Env) (k : Nat), (frzS vs k env).length = env.length
  | [], _ => rfl
  | s :: r, k => by cases s <;> simp [frzS, frzS_length vs r (k + 1)]
theorem frz_o {vs : List Nat} (h : geti (frzS vs 0 env) i = .o d) : geti env i = .o d ∧ i ∉ vs := by
  rw [geti_frzS] at h
  cases e : geti env i with
  | o d' =>
    rw [e] at h
    simp only [Nat.zero_add] at h
    split at h
    · cases h
    · rename_i c
      cases h
      exact ⟨rfl, by simpa using c⟩
  | _ => rw [e] at h; cases h
theorem frz_f {vs : List Nat} (h : geti (frzS vs 0 env) i = .f d) : geti env i = .f d ∨ (geti env i = .o d ∧ i ∈ vs) := by
  rw [geti_frzS] at h
  cases e : geti env i with
  | o d' =>
    rw [e] at h
    simp only [Nat.zero_add] at h
    split at h
    · rename_i c
      cases h
      exact .inr ⟨rfl, by simpa using c⟩
    · cases h
  | f d' => rw [e] at h; cases h; exact .inl rfl
  | _ => rw [e] at h; cases h
theorem frz_x {vs : List Nat} {c : Str} (h : geti (frzS vs 0 env) i = .x c) : geti env i = .x c := by
  rw [geti_frzS] at h
  cases e : geti env i with
  | o d' =>
    rw [e] at h
    simp only [Nat.zero_add] at h
    split at h <;> cases h
  | x d' => rw [e] at h; cases h; rfl
  | _ => rw [e] at h; cases h
theorem av_frz {vs : List Nat} {a : Addr} (h : Av A (frzS vs 0 env) ow a) : AvS A env ow vs a := by
  rcases h with h | ⟨i, d, e, q⟩
  · exact .inl h
  · obtain ⟨e1, e2⟩ := frz_o e
    exact .inr ⟨i, d, e1, e2, q⟩
theorem SRo.frzA (h : SRo p H0 A env σ H ow) (vs : List Nat) : SRo p H0 A (frzS vs 0 env) σ H ow where
  same := h.same
  dom := h.dom
  len := h.len
  elen := by rw [frzS_length]; exact h.elen
  own := fun i d e => by
    obtain ⟨e', _⟩ := frz_o e
    obtain ⟨e1, e0, o, e2, r⟩ := h.own i d e'
    exact ⟨e1, e0, o, e2, r.less fun a q => avS_sub (av_frz q)⟩
  inj := fun i j d e h1 h2 q => h.inj i j d e (frz_o h1).1 (frz_o h2).1 q
  frz := fun i d e => by
    rcases frz_f e with e | ⟨e, hi⟩
    · obtain ⟨v, e1, r⟩ := h.frz i d e
      exact ⟨v, e1, Rp.less (fun a q => avS_sub (av_frz q)) _ _ r⟩
    · obtain ⟨v, e1, r⟩ := (h.pre vs).rr i hi d (by rw [e]; rfl)
      exact ⟨v, e1, Rp.less (fun a q => av_frz q) _ _ r⟩
  xs := fun i c e => h.xs i c (frz_x e)
  inv := h.inv
theorem XS.set {sx : Option (Nat × Str × Addr)} {x : Sl} {w : Option V} (h : XS sx env σ) (hx : ∀ c, x ≠ .x c) : XS sx (sets env i x) (σ.set i w) := by
  intro j c e
  rw [geti_sets] at e
  by_cases c1 : i = j
  · subst c1
    by_cases c2 : i < env.length
    · simp only [c2, and_self, if_true] at e
      exact absurd e (hx c)
    · simp only [c2, and_false, if_false] at e
      rw [geti_out c2] at e; cases e
  · simp only [c1, false_and, if_false] at e
    rw [List.getElem?_set_ne c1]
    exact h j c e
/-- a pinned name keeps its object -/
theorem SRo.invS (h : SRo p H0 A env σ H ow) (hm : ∀ a, p.pin ≠ some (i, a)) (w : Option V) : ∀ j a, p.pin = some (j, a) → (σ.set i w)[j]? = some (some (.ref a)) := fun j a e => by
  have c : i ≠ j := fun q => hm a (by rw [q]; exact e)
  rw [List.getElem?_set_ne c]
  exact h.inv j a e
/-- a store of a value that no owned list is part of -/
theorem SRo.setF (h : SRo p H0 A env σ H ow) (him : p.may i) (r : Rp (Av A env ow) H v d) : SRo p H0 A (sets env i (.f d)) (σ.set i (some v)) H ow := by
  have hi := him.1
  have hi' : i < env.length := by rw [h.elen]; exact hi
  have hs : i < σ.length := by rw [h.len]; exact hi
  have so : ∀ {j e}, geti (sets env i (.f d)) j = .o e → j ≠ i ∧ geti env j = .o e := fun {j e} q => by
    rw [geti_sets] at q
    by_cases c : i = j
    · subst c
      simp only [hi', and_self, if_true] at q
      cases q
    · simp only [c, false_and, if_false] at q
      exact ⟨fun z => c z.symm, q⟩
  have sub : ∀ a, Av A (sets env i (.f d)) ow a → Av A env ow a := fun a q => by
    rcases q with q | ⟨j, e, q, z⟩
    · exact .inl q
    · exact .inr ⟨j, e, (so q).2, z⟩
  refine ⟨h.same, h.dom, by rw [List.length_set]; exact h.len, by rw [sets_length]; exact h.elen, fun j e q => ?_, fun j k e e' q q' z => h.inj j k e e' (so q).2 (so q').2 z, fun j e q => ?_, h.xs.set (fun c q => by cases q), h.invS him.2 _⟩
  · obtain ⟨n, q⟩ := so q
    obtain ⟨e1, e0, o, e2, r⟩ := h.own j e q
    exact ⟨by rw [List.getElem?_set_ne (Ne.symm n)]; exact e1, e0, o, e2, r.less sub⟩
  · rw [geti_sets] at q
    by_cases c : i = j
    · subst c
      simp only [hi', and_self, if_true] at q
      cases q
      exact ⟨v, List.getElem?_set_self hs, Rp.less sub _ _ r⟩
    · simp only [c, false_and, if_false] at q
      obtain ⟨w, e1, r⟩ := h.frz j e q
      exact ⟨w, by rw [List.getElem?_set_ne c]; exact e1, Rp.less sub _ _ r⟩
/-- a store of a new list -/
theorem SRo.setG {a : Addr} {o : HO} {d : D} (h : SRo p H0 A env σ H ow) (him : p.may i) (s : Same H H') (n : H a = none) (e : H' a = some o) (r : OwnR (fun b => Av A env ow b ∨ b = a) H' a o d) :
    SRo p H0 A (sets env i (.o d)) (σ.set i (some (.ref a))) H' (fun j => if j = i then a else ow j) := by
  have hi := him.1
  have hi' : i < env.length := by rw [h.elen]; exact hi
  have hs : i < σ.length := by rw [h.len]; exact hi
  have gi : geti (sets env i (.o d)) i = .o d := by simp [geti_sets, hi']
  have gn : ∀ {j}, j ≠ i → geti (sets env i (.o d)) j = geti env j := fun {j} c => by simp [geti_sets, Ne.symm c]
  have sub : ∀ b, Av A (sets env i (.o d)) (fun j => if j = i then a else ow j) b → Av A env ow b ∨ b = a := fun b q => by
    rcases q with q | ⟨j, e', q, z⟩
    · exact .inl (.inl q)
    · by_cases c : j = i
      · simp only [c, if_true] at z
        exact .inr z.symm
      · simp only [c, if_false] at z
        rw [gn c] at q
        exact .inl (.inr ⟨j, e', q, z⟩)
  have sub2 : ∀ b, Av A (sets env i (.o d)) (fun j => if j = i then a else ow j) b → Av A env ow b ∨ H b = none := fun b q => (sub b q).imp id fun e => by rw [e]; exact n
  have na : ∀ j e', geti env j = .o e' → ow j ≠ a := fun j e' q z => by
    obtain ⟨_, _, o, e2, _⟩ := h.own j e' q
    rw [z, n] at e2; cases e2
  refine ⟨h.same.trans s, h.dom, by rw [List.length_set]; exact h.len, by rw [sets_length]; exact h.elen, fun j e' q => ?_, fun j k e1 e2 q q' z => ?_, fun j e' q => ?_, h.xs.set (fun c q => by cases q), h.invS him.2 _⟩
  · by_cases c : j = i
    · subst c
      rw [gi] at q
      cases q
      simp only [if_true]
      exact ⟨List.getElem?_set_self hs, h.same.free n, o, e, r.less sub⟩
    · rw [gn c] at q
      simp only [c, if_false]
      obtain ⟨e1, e0, o2, e2, r⟩ := h.own j e' q
      exact ⟨by rw [List.getElem?_set_ne (Ne.symm c)]; exact e1, e0, o2, s _ _ e2, r.keep (Keep.of s) sub2⟩
  · by_cases c : j = i
    · by_cases c2 : k = i
      · rw [c, c2]
      · rw [gn c2] at q'
        simp only [c, c2, if_true, if_false] at z
        exact absurd z.symm (na k _ q')
    · rw [gn c] at q
      by_cases c2 : k = i
      · simp only [c, c2, if_true, if_false] at z
        exact absurd z (na j _ q)
      · rw [gn c2] at q'
        simp only [c, c2, if_false] at z
        exact h.inj j k _ _ q q' z
  · by_cases c : j = i
    · subst c
      rw [gi] at q
      cases q
    · rw [gn c] at q
      obtain ⟨w, e1, r⟩ := h.frz j e' q
      exact ⟨w, by rw [List.getElem?_set_ne (Ne.symm c)]; exact e1, Rp.keep (Keep.of s) sub2 _ _ r⟩
theorem SRo.setO {a : Addr} {xs : List V} {ds : List D} (h : SRo p H0 A env σ H ow) (hi : p.may i) (s : Same H H') (n : H a = none) (e : H' a = some (.lst xs)) (z : xs.length ≤ sizeLine) (r : RpA (fun b => Av A env ow b ∨ b = a) H' xs ds) :
    SRo p H0 A (sets env i (.o (.list ds))) (σ.set i (some (.ref a))) H' (fun j => if j = i then a else ow j) := h.setG hi s n e (.lst z r)
/-- an owned list changes -/
theorem SRo.mutG {d0 d : D} {o : HO} (h : SRo p H0 A env σ H ow) (g : geti env i = .o d0) (r : OwnR (Av A env ow) H (ow i) o d) :
    SRo p H0 A (sets env i (.o d)) σ (upd H (ow i) o) ow := by
  have hi' : i < env.length := Decidable.byContradiction fun c => by rw [geti_out c] at g; cases g
  have gi : geti (sets env i (.o d)) i = .o d := by simp [geti_sets, hi']
  have gn : ∀ {j}, j ≠ i → geti (sets env i (.o d)) j = geti env j := fun {j} c => by simp [geti_sets, Ne.symm c]
  have sub : ∀ b, Av A (sets env i (.o d)) ow b → Av A env ow b := fun b q => by
    rcases q with q | ⟨j, e', q, z⟩
    · exact .inl q
    · by_cases c : j = i
      · subst c
        exact .inr ⟨j, _, g, z⟩
      · rw [gn c] at q
        exact .inr ⟨j, e', q, z⟩
  obtain ⟨g1, g0, _⟩ := h.own i _ g
  have kp : Keep (Av A env ow) H (upd H (ow i) o) := fun b o2 e n => by
    rw [upd_ne (fun q => n (by rw [q]; exact .inr ⟨i, _, g, rfl⟩))]
    exact e
  have sub2 : ∀ b, Av A (sets env i (.o d)) ow b → Av A env ow b ∨ H b = none := fun b q => .inl (sub b q)
  refine ⟨fun b o2 e => ?_, h.dom, h.len, by rw [sets_length]; exact h.elen, fun j e' q => ?_, fun j k e1 e2 q q' z => ?_, fun j e' q => ?_, ?_, h.inv⟩
  · rw [upd_ne (fun q => by rw [q, g0] at e; cases e)]
    exact h.same b o2 e
  · by_cases c : j = i
    · subst c
      rw [gi] at q
      cases q
      exact ⟨g1, g0, o, upd_same, r.keep kp sub2⟩
    · rw [gn c] at q
      obtain ⟨e1, e0, o2, e2, r⟩ := h.own j e' q
      exact ⟨e1, e0, o2, by rw [upd_ne (fun y => c (h.inj j i _ _ q g y))]; exact e2, r.keep kp sub2⟩
  · have go : ∀ j e, geti (sets env i (.o d)) j = .o e → ∃ e, geti env j = .o e := fun j e q => by
      by_cases c : j = i
      · subst c; exact ⟨_, g⟩
      · rw [gn c] at q; exact ⟨_, q⟩
    obtain ⟨_, q⟩ := go _ _ q
    obtain ⟨_, q'⟩ := go _ _ q'
    exact h.inj j k _ _ q q' z
  · by_cases c : j = i
    · subst c
      rw [gi] at q
      cases q
    · rw [gn c] at q
      obtain ⟨w, e1, r⟩ := h.frz j e' q
      exact ⟨w, e1, Rp.keep kp sub2 _ _ r⟩
  · intro j c e
    by_cases c1 : j = i
    · subst c1
      rw [gi] at e; cases e
    · rw [gn c1] at e
      exact h.xs j c e
theorem SRo.mut {d0 : D} {xs : List V} {ds : List D} (h : SRo p H0 A env σ H ow) (g : geti env i = .o d0) (z : xs.length ≤ sizeLine) (r : RpA (Av A env ow) H xs ds) :
    SRo p H0 A (sets env i (.o (.list ds))) σ (upd H (ow i) (.lst xs)) ow := h.mutG g (.lst z r)
/-- more is held fast -/
theorem SRo.back (h : SRo p H0' A env σ H ow) (s : Same H0 H0') (hd : ∀ a, A a → H0 a ≠ none) : SRo p H0 A env σ H ow :=
  ⟨s.trans h.same, hd, h.len, h.elen, fun i d e => by
    obtain ⟨e1, e0, r⟩ := h.own i d e
    exact ⟨e1, s.free e0, r⟩, h.inj, h.frz, h.xs, h.inv⟩
/-- the heap without the owned lists -/
noncomputable def unOwn (env : Env) (ow : Nat → Addr) (H : Hp) : Hp := fun a => open Classical in if ∃ i d, geti env i = .o d ∧ ow i = a then none else H a
theorem SRo.fwd (h : SRo p H0 A env σ H ow) : Same H0 (unOwn env ow H) ∧ SRo p (unOwn env ow H) A env σ H ow := by
  have s1 : Same H0 (unOwn env ow H) := fun a o e => by
    unfold unOwn
    rw [if_neg (fun ⟨i, d, q, z⟩ => by
      obtain ⟨_, e0, _⟩ := h.own i d q
      rw [z, e] at e0; cases e0)]
    exact h.same a o e
  refine ⟨s1, fun a o e => ?_, fun a q z => h.dom a q (s1.free z), h.len, h.elen, fun i d e => ?_, h.inj, h.frz, h.xs, h.inv⟩
  · unfold unOwn at e
    split at e
    · cases e
    · exact e
  · obtain ⟨e1, e0, r⟩ := h.own i d e
    refine ⟨e1, ?_, r⟩
    unfold unOwn
    rw [if_pos ⟨i, d, e, rfl⟩]
theorem OkX.may {g : G} {k : Nat} {cm : Bool} {sc : Scope} {X : Cx} {p : Pm} {t : T} {i : Nat} (ok : OkX g k cm sc X p) (h : pinB g t = false) (hi : i ∈ t.ids) (hl : i < g.N.length) : p.may i := by
  refine ⟨by rw [ok.nl]; exact hl, fun a e => ?_⟩
  have e2 := ok.pn i a e
  have : pinB g t = true := by
    unfold pinB
    rw [List.any_eq_true]
    exact ⟨i, hi, by rw [e2]; exact beq_self_eq_true _⟩
  rw [this] at h
  cases h
end
end PC
set_option Elab.async false
set_option linter.all false
namespace PC
open PySem PySem.Spec PyProof.Rows L2
def Endo (p : Pm) (H0 : Hp) (A : Addr → Prop) (D : Ends) : Out → Prop
  | .nx env => ∀ σ H, SR p H0 A env σ H → D.nx σ H
  | .bk env => ∀ σ H, SR p H0 A env σ H → D.bk σ H
  | .rt d => ∀ v H, Same H0 H → Rp A H v d → D.rt v H
  | .ex c env => ∀ σ H, SR p H0 A env σ H → p.W (.ref (p.ec c)) none σ H
  | .st => False
def tS (p : Pm) (f : Env → Out) : TS := fun D σ H => ∃ H0 A env, SR p H0 A env σ H ∧ Endo p H0 A D (f env)
structure OkT (g : G) (k : Nat) (cm : Bool) (scp : Scope) (X : Cx) (p : Pm) : Prop extends OkX g k cm scp X p where
  hs : X.stack = X.env :: X.outer
  hf : X.env.frame = some X.env.locals
  st : StOk X scp
  po : PassesOwn (model X.prog X.w) X.A X.env X.xe
theorem PS.imp {X : Cx} {s : Stmt} {t t' : TS} (h : PS X s t) (i : ∀ D σ H, t' D σ H → t D σ H) : PS X s t' := ⟨fun pins s σ H D I q => h.run pins s σ H D I (i D σ H q)⟩
theorem PSs.imp {X : Cx} {s : List Stmt} {t t' : TS} (h : PSs X s t) (i : ∀ D σ H, t' D σ H → t D σ H) : PSs X s t' := ⟨fun pins s σ H D I q => h.run pins s σ H D I (i D σ H q)⟩
section
variable {p : Pm} {H0 H0' H H' : Hp} {A : Addr → Prop} {env : Env} {σ : L2.St} {ow : Nat → Addr} {i : Nat} {d : D} {v : V} {D : Ends}
theorem Endo.fwd {o : Out} (h : Endo p H0 A D o) (s : Same H0 H0') (hd : ∀ a, A a → H0 a ≠ none) : Endo p H0' A D o := by
  cases o with
  | nx env => exact fun σ H ⟨ow, q⟩ => h σ H ⟨ow, q.back s hd⟩
  | bk env => exact fun σ H ⟨ow, q⟩ => h σ H ⟨ow, q.back s hd⟩
  | rt d => exact fun v H s' r => h v H (s.trans s') r
  | ex c env => exact fun σ H ⟨ow, q⟩ => h σ H ⟨ow, q.back s hd⟩
  | st => exact h
theorem onR_use {α : Type} {r : R α} {k : α → Out} (h : SRo p H0 A env σ H ow) (q : Endo p H0 A D (onR r env k)) : After p σ H r fun a H1 => SRo p H0 A env σ H1 ow ∧ Endo p H0 A D (k a) := by
  cases r with
  | ok a => exact fun H1 s => ⟨h.sameH s, q⟩
  | ex c => exact fun H1 s => q σ H1 ⟨ow, h.sameH s⟩
  | st => exact q
/-- behind a value that may share the lists of vs -/
theorem SRo.shr (h : SRo p H0 A env σ H ow) (vs : List Nat) (r : Rp (AvS A env ow vs) H v d) : SRo p H0 A (PC.shr vs d env) σ H ow ∧ Rp (Av A (PC.shr vs d env) ow) H v d := by
  unfold PC.shr
  split
  · rename_i c
    refine ⟨h, Rp.flat (fun a q => ?_) d v c r⟩
    rcases q with q | ⟨j, e, q, z⟩
    · exact .inl (.inl q)
    · obtain ⟨_, _, o, e2, r⟩ := h.own j e q
      exact .inr (by rw [← z]; exact r.mutO e2)
  · exact ⟨h.frzA vs, Rp.less (fun a q => av_frz q) _ _ r⟩
theorem SRo.shrA {xs : List V} {ds : List PyData} (h : SRo p H0 A env σ H ow) (vs : List Nat) (r : RpA (AvS A env ow vs) H xs ds) :
    SRo p H0 A (if flatAll ds then env else frzS vs 0 env) σ H ow ∧ RpA (Av A (if flatAll ds then env else frzS vs 0 env) ow) H xs ds := by
  split
  · rename_i c
    refine ⟨h, RpA.flat (fun a q => ?_) ds xs c r⟩
    rcases q with q | ⟨j, e, q, z⟩
    · exact .inl (.inl q)
    · obtain ⟨_, _, o, e2, r⟩ := h.own j e q
      exact .inr (by rw [← z]; exact r.mutO e2)
  · exact ⟨h.frzA vs, RpA.less (fun a q => av_frz q) _ _ r⟩
theorem SRo.put {e : E} (h : SRo p H0 A env σ H ow) (hi : p.may i) (s : Same H H') (r : Rp (AvS A env ow e.vars) H' v d) (tn : e.fresh = true → TopNew (AvS A env ow e.vars) H H' v d) : SR p H0 A (putS e i d env) (σ.set i (some v)) H' := by
  unfold putS
  split
  · rename_i ds hf
    obtain ⟨a, xs, rfl, n, e1, z, ra⟩ := (tn hf).1 ds rfl
    split
    · rename_i c
      refine ⟨_, h.setO hi s n e1 z (RpA.flat (fun b q => ?_) ds xs c ra)⟩
      rcases q with (q | ⟨j, e, q, z⟩) | q
      · exact .inl (.inl (.inl q))
      · obtain ⟨_, _, o, e2, r⟩ := (h.sameH s).own j e q
        exact .inr (by rw [← z]; exact r.mutO e2)
      · exact .inl (.inr q)
    · refine ⟨_, (h.frzA e.vars).setO hi s n e1 z (RpA.less (fun b q => ?_) _ _ ra)⟩
      rcases q with q | q
      · exact .inl (av_frz q)
      · exact .inr q
  · rename_i kvs hf
    obtain ⟨a, rfl, n, ⟨ks, e1, z, ra⟩ | ⟨ks, e1, z, ra⟩⟩ := (tn hf).2 kvs rfl
    · split
      · rename_i c
        refine ⟨_, h.setG hi s n e1 (.dct z (RpK.flat (fun b q => ?_) kvs ks c ra))⟩
        rcases q with (q | ⟨j, e, q, z⟩) | q
        · exact .inl (.inl (.inl q))
        · obtain ⟨_, _, o, e2, r⟩ := (h.sameH s).own j e q
          exact .inr (by rw [← z]; exact r.mutO e2)
        · exact .inl (.inr q)
      · refine ⟨_, (h.frzA e.vars).setG hi s n e1 (.dct z (RpK.less (fun b q => ?_) _ _ ra))⟩
        rcases q with q | q
        · exact .inl (av_frz q)
        · exact .inr q
    · split
      · rename_i c
        refine ⟨_, h.setG hi s n e1 (.dtt z (RpT.flat (fun b q => ?_) kvs ks c ra))⟩
        rcases q with (q | ⟨j, e, q, z⟩) | q
        · exact .inl (.inl (.inl q))
        · obtain ⟨_, _, o, e2, r⟩ := (h.sameH s).own j e q
          exact .inr (by rw [← z]; exact r.mutO e2)
        · exact .inl (.inr q)
      · refine ⟨_, (h.frzA e.vars).setG hi s n e1 (.dtt z (RpT.less (fun b q => ?_) _ _ ra))⟩
        rcases q with q | q
        · exact .inl (av_frz q)
        · exact .inr q
  · obtain ⟨h1, r1⟩ := (h.sameH s).shr e.vars r
    exact ⟨_, h1.setF hi r1⟩
theorem av_set {a : Addr} (h : Av A (sets env i (.f d)) ow a) : Av A env ow a := by
  rcases h with h | ⟨j, e, q, z⟩
  · exact .inl h
  · rw [geti_sets] at q
    split at q
    · cases q
    · exact .inr ⟨j, e, q, z⟩
theorem gNs_SR : ∀ {is : List Nat} {ds : List PyData} {vs : List V} {env env1 : Env} {σ : L2.St}, setsAll env is ds = some env1 → (∀ i ∈ is, p.may i) → RpA (Av A env ow) H vs ds → SRo p H0 A env σ H ow →
    gNs is vs σ H fun σ2 H2 => H2 = H ∧ SRo p H0 A env1 σ2 H ow
  | [], [], _, env, env1, σ, h, _, .nil, r => by
    cases h
    exact ⟨rfl, rfl, r⟩
  | i :: is, d :: ds, _, env, env1, σ, h, hi, .cons (v := v) hv hvs, r => by
    have h : setsAll (sets env i (.f d)) is ds = some env1 := h
    have r2 := r.setF (hi i List.mem_cons_self) hv
    exact ⟨v, _, rfl, gNs_SR (σ := σ.set i (some v)) h (fun j hj => hi j (List.mem_cons_of_mem _ hj)) (RpA.less (fun a q => av_set q) _ _ hvs) r2⟩
  | [], _ :: _, _, _, _, _, h, _, _, _ => by simp [setsAll] at h
  | _ :: _, [], _, _, _, _, h, _, _, _ => by simp [setsAll] at h
theorem gT_SR {K : PySem.W.Frag} {tt : T} {env1 : Env} (h : asgT tt d env = some env1) (hi : ∀ i ∈ tt.ids, p.may i) (hv : Rp (Av A env ow) H v d) (r : SRo p H0 A env σ H ow) :
    gT K tt v σ H fun σ2 H2 => H2 = H ∧ SRo p H0 A env1 σ2 H ow := by
  cases tt with
  | n i =>
    cases h
    exact ⟨rfl, r.setF (hi i (by simp [T.ids])) hv⟩
  | t is =>
    cases hv with
    | @tup a xs ds n ht z ra =>
      have h : setsAll env is ds = some env1 := h
      have hl : xs.length = is.length := by
        rw [ra.length]
        exact setsAll_len h
      exact ⟨a, xs, rfl, .inl ht.sq, hl, gNs_SR h hi ra r⟩
    | @lst a xs ds n ht z ra =>
      have h : setsAll env is ds = some env1 := h
      have hl : xs.length = is.length := by
        rw [ra.length]
        exact setsAll_len h
      exact ⟨a, xs, rfl, .inr (.inl ht), hl, gNs_SR h hi ra r⟩
    | _ => cases h
end
section
variable {g : G} {k n fu : Nat} {cm : Bool} {sc : Scope} {X : Cx} {p : Pm} {pos : Pos}
theorem s_ret {e : Expr} {x : E} (he : PE X e (tE p x)) : PS X (.Return (some e) pos) (tS p (evS p.Φ fu (.ret x))) := PS.imp (ps_ret he) fun D σ H ⟨H0, A, env, ⟨ow, h⟩, q⟩ => by
  simp only [evS] at q
  exact ⟨_, env, h.pre _, (onR_use h q).mono fun d H1 s ⟨h1, q⟩ v hv => q v H1 h1.same (Rp.less (fun a z => .inl z) _ _ hv)⟩
theorem s_retN : PS X (.Return none pos) (tS p (evS p.Φ fu .retN)) := PS.imp ps_retN fun D σ H ⟨H0, A, env, ⟨ow, h⟩, q⟩ => by
  simp only [evS] at q
  exact q .non H h.same .non
theorem s_brk : PS X (.Break pos) (tS p (evS p.Φ fu .brk)) := PS.imp ps_break fun D σ H ⟨H0, A, env, h, q⟩ => by
  simp only [evS] at q
  exact q σ H h
theorem s_pas : PS X (.Pass pos) (tS p (evS p.Φ fu .pas)) := PS.imp ps_pass fun D σ H ⟨H0, A, env, h, q⟩ => by
  simp only [evS] at q
  exact q σ H h
theorem s_if {c : Expr} {a b : List Stmt} {x : E} {y z : List S} (hc : PT X c (tT p x)) (ha : PSs X a (tS p (evSs p.Φ fu y))) (hb : PSs X b (tS p (evSs p.Φ fu z))) : PS X (.If c a b pos) (tS p (evS p.Φ fu (.ite x y z))) :=
  PS.imp (ps_if hc ha hb) fun D σ H ⟨H0, A, env, ⟨ow, h⟩, q⟩ => by
    simp only [evS] at q
    refine ⟨_, env, h.pre _, (onR_use h q).mono fun k H1 s ⟨h1, q⟩ => ?_⟩
    cases k with
    | true => exact ⟨H0, A, env, ⟨ow, h1⟩, q⟩
    | false => exact ⟨H0, A, env, ⟨ow, h1⟩, q⟩
theorem s_while {c : Expr} {b : List Stmt} {x : E} {y : List S} (po : PassesOwn (model X.prog X.w) X.A X.env X.xe) (hc : PT X c (tT p x)) (hb : PSs X b (tS p (evSs p.Φ fu y))) : PS X (.While c b [] pos) (tS p (evS p.Φ fu (.whl x y))) :=
  PS.imp (ps_while po hc hb) fun D σ H ⟨H0, A, env, h, q⟩ => by
    simp only [evS] at q
    refine ⟨fun m σ H => ∃ env, SR p H0 A env σ H ∧ Endo p H0 A D (evWhl (fun env => toB (evE p.Φ x env)) (evSs p.Φ fu y) m env), ⟨fu, env, h, q⟩, ?_⟩
    rintro m σ H ⟨env, ⟨ow, h⟩, q⟩
    cases m with
    | zero => exact q.elim
    | succ m =>
      refine ⟨_, env, h.pre _, ?_⟩
      unfold evWhl at q
      cases e : toB (evE p.Φ x env) with
      | ok b =>
        rw [e] at q
        intro H1 s1
        cases b with
        | false => exact q σ H1 ⟨ow, h.sameH s1⟩
        | true =>
          refine ⟨fun σ' H' => ∃ env, SR p H0 A env σ' H' ∧ Endo p H0 A D (evWhl (fun env => toB (evE p.Φ x env)) (evSs p.Φ fu y) m env), fun σ' H' z => ⟨m, Nat.lt_succ_self m, z⟩, H0, A, env, ⟨ow, h.sameH s1⟩, ?_⟩
          have q : Endo p H0 A D (match evSs p.Φ fu y env with
            | .nx env2 => evWhl (fun env => toB (evE p.Φ x env)) (evSs p.Φ fu y) m env2
            | .bk env2 => .nx env2
            | o => o) := q
          cases e2 : evSs p.Φ fu y env with
          | nx env2 => rw [e2] at q; exact fun σ' H' h' => ⟨env2, h', q⟩
          | bk env2 => rw [e2] at q; exact q
          | rt d => rw [e2] at q; exact q
          | ex c2 env2 => rw [e2] at q; exact q
          | st => rw [e2] at q; exact q
      | ex c2 =>
        rw [e] at q
        exact fun H1 s1 => q σ H1 ⟨ow, h.sameH s1⟩
      | st => rw [e] at q; exact q
theorem s_nil : PSs X [] (tS p (evSs p.Φ fu [])) := PSs.imp pss_nil fun D σ H ⟨H0, A, env, h, q⟩ => by
  simp only [evSs] at q
  exact q σ H h
theorem s_cons {s : Stmt} {r : List Stmt} {y : S} {z : List S} (h1 : PS X s (tS p (evS p.Φ fu y))) (h2 : PSs X r (tS p (evSs p.Φ fu z))) : PSs X (s :: r) (tS p (evSs p.Φ fu (y :: z))) :=
  PSs.imp (pss_cons h1 h2) fun D σ H ⟨H0, A, env, h, q⟩ => by
    simp only [evSs] at q
    refine ⟨H0, A, env, h, ?_⟩
    cases e : evS p.Φ fu y env with
    | nx env2 => rw [e] at q; exact fun σ' H' h' => ⟨H0, A, env2, h', q⟩
    | bk env2 => rw [e] at q; exact q
    | rt d => rw [e] at q; exact q
    | ex c2 env2 => rw [e] at q; exact q
    | st => rw [e] at q; exact q
theorem s_for {t it : Expr} {b : List Stmt} {tt : T} {i : I} {y : List S} (po : PassesOwn (model X.prog X.w) X.A X.env X.xe) (hc : X.calm = true) (hi : PI X t it (tI p i)) (hg : PG X t (gT X.K tt)) (hl : ∀ i ∈ tt.ids, p.may i) (hfold : ∀ y, foldedSetIterable it X.env y = pure y)
    (hb : PSs X b (tS p (evSs p.Φ fu y))) : PS X (.For t it b [] pos) (tS p (evS p.Φ fu (.for_ tt i y))) :=
  PS.imp (ps_for po hc hi hg hb hfold) fun D σ H ⟨H0, A, env, ⟨ow, h⟩, q⟩ => by
    simp only [evS] at q
    refine ⟨_, env, h.pre i.vars, (onR_use h q).mono fun ds H1 s1 ⟨h1, q⟩ J runs hz => ?_⟩
    have key : ∃ env2, frzI i ds env = env2 ∧ SRo p H0 A env2 σ H1 ow ∧ (∀ a, Av A env2 ow a → AI i (AvS A env ow i.vars) a) := by
      cases i with
      | e x => exact ⟨_, rfl, h1.frzA _, fun a z => av_frz z⟩
      | en x => exact ⟨_, rfl, h1.frzA _, fun a z => av_frz z⟩
      | _ => exact ⟨_, rfl, h1, fun a z => trivial⟩
    obtain ⟨env2, e2, h2, hav⟩ := key
    rw [e2] at q
    obtain ⟨s2, h3⟩ := h2.fwd
    have hd : ∀ a, A a → H0 a ≠ none := h2.dom
    generalize hU : unOwn env2 ow H1 = H0' at s2 h3
    have q := q.fwd s2 hd
    -- what the body leaves alone
    have keep : ∀ {env' : Env} {σ H} {ow' : Nat → Addr}, SRo p H0' A env' σ H ow' → Keep (Av A env2 ow) H1 H := fun h a o e n => h.same a o (by
      rw [← hU]
      unfold unOwn
      rw [if_neg (fun z => n (.inr z))]
      exact e)
    have keep' : ∀ {env' : Env} {σ H} {ow' : Nat → Addr}, SRo p H0' A env' σ H ow' → Keep (AI i (AvS A env ow i.vars)) H1 H := fun h a o e n => keep h a o e fun z => n (hav a z)
    have new : ∀ {env' : Env} {σ H} {ow' : Nat → Addr}, SRo p H0' A env' σ H ow' → ∀ a, Av A env' ow' a → AI i (AvS A env ow i.vars) a ∨ H1 a = none := fun {env' σ H ow'} h a z => by
      rcases z with z | ⟨j, d, e, rfl⟩
      · exact .inl (hav a (.inl z))
      · obtain ⟨_, e0, _⟩ := h.own j d e
        rw [← hU] at e0
        unfold unOwn at e0
        split at e0
        · rename_i c
          exact .inl (hav _ (.inr c))
        · exact .inr e0
    refine ⟨fun j m σ H => m = ds.length - j ∧ j ≤ ds.length ∧ ∃ env, SR p H0' A env σ H ∧ Endo p H0' A D (evFor (evSs p.Φ fu y) tt (ds.drop j) env), ⟨ds.length, by simp, Nat.zero_le _, env2, ⟨ow, h3⟩, by simpa using q⟩, ?_⟩
    rintro j m σ' H' ⟨rfl, hj, env3, ⟨ow3, h4⟩, q3⟩
    by_cases hlt : j < ds.length
    · refine .inr ⟨runs.go j H' (keep' h4) hlt, fun σ' H' => (j + 1) ≤ ds.length ∧ ∃ env, SR p H0' A env σ' H' ∧ Endo p H0' A D (evFor (evSs p.Φ fu y) tt (ds.drop (j + 1)) env),
        fun σ' H' h => ⟨ds.length - (j + 1), by omega, rfl, h⟩, fun v H5 hy => ?_⟩
      obtain ⟨d, hdd, s5, hrp⟩ := runs.yld j H' v H5 (Av A env3 ow3) hlt (keep' h4) h4.trA (new h4) hy
      have hdr : ds.drop j = d :: ds.drop (j + 1) := by
        have e := List.drop_eq_getElem_cons hlt
        rw [List.getElem?_eq_getElem hlt] at hdd
        rw [e, Option.some.inj hdd]
      rw [hdr] at q3
      unfold evFor at q3
      cases has : asgT tt d env3 with
      | none => rw [has] at q3; exact q3.elim
      | some env4 =>
        rw [has] at q3
        refine gT_mono (gT_SR has hl hrp (h4.sameH s5)) fun σ2 H2 ⟨e5, h5⟩ => ?_
        subst e5
        refine ⟨H0', A, env4, ⟨ow3, h5⟩, ?_⟩
        have q3 : Endo p H0' A D (match evSs p.Φ fu y env4 with
          | .nx env2 => evFor (evSs p.Φ fu y) tt (ds.drop (j + 1)) env2
          | .bk env2 => .nx env2
          | o => o) := q3
        cases e6 : evSs p.Φ fu y env4 with
        | nx env5 => rw [e6] at q3; exact fun σ' H' h' => ⟨hlt, env5, h', q3⟩
        | bk env5 => rw [e6] at q3; exact q3
        | rt d => rw [e6] at q3; exact q3
        | ex c2 env5 => rw [e6] at q3; exact q3
        | st => rw [e6] at q3; exact q3
    · have hj' : j = ds.length := by omega
      refine .inl ⟨runs.stop j H' (keep' h4) (by omega), ?_⟩
      rw [hj', List.drop_length] at q3
      exact q3 σ' H' ⟨ow3, h4⟩
theorem ps_setDc {X : Cx} {i : Nat} {y : Str} {py : Pos} {kx vx tg iter : Expr} {ifs : List Expr} {scope : Scope} {own : List (Str × Nat)} {pos spos : Pos} {wi : TI} {g : TG} {tt : TT} {tk tv : TE} (hc : X.calm = true) (hN : X.N.Nodup) (hy : X.N[i]? = some y) (hyl : X.env.scope.names.lookup y = some .local)
    (hsw : swapsWith (.DictComp kx vx [⟨tg, iter, ifs, 0⟩] scope pos) (some (.Name y py)) spos.line X.env = pure true) (hi : PI X tg iter wi) (ok : BlkOk X.N X.env.scope scope own)
    (hg : ∀ (s : Shared) (H : Hp) (C : Addr) (cl : List (Str × Addr)) (fp : List Addr), PG (X.blk s H scope (compEnvC scope cl C X.env) fp) tg g) (ht : ∀ (s : Shared) (H : Hp) (C : Addr) (cl : List (Str × Addr)) (fp : List Addr), PTs (X.blk s H scope (compEnvC scope cl C X.env) fp) ifs tt)
    (hk : ∀ (s : Shared) (H : Hp) (C : Addr) (cl : List (Str × Addr)) (fp : List Addr), PE (X.blk s H scope (compEnvC scope cl C X.env) fp) kx tk)
    (he : ∀ (s : Shared) (H : Hp) (C : Addr) (cl : List (Str × Addr)) (fp : List Addr), PE (X.blk s H scope (compEnvC scope cl C X.env) fp) vx tv) (hs : ∀ x, foldedSetIterable iter X.env x = pure x := by intro _; rfl) :
    PS X (.Assign [.Name y py] (.DictComp kx vx [⟨tg, iter, ifs, 0⟩] scope pos) spos) (tAsg (tDc wi g tt tk tv (own.map (·.2))) (gName i)) := by
  refine ⟨fun pins s σ H D I h => ?_⟩
  rw [exec_Assign_Name_used _ _ _ _ hsw]
  refine wpAny_bind (wpAny_standAt (wpAny_bind ?_))
  show wpAny _ X.A (do let _ ← comprehension (.DictComp kx vx [⟨tg, iter, ifs, 0⟩] scope pos) scope X.env (firstIterPos [⟨tg, iter, ifs, 0⟩] pos) newDict false (eval iter X.env) (some (assign (.Name y py) X.env))) _ _ s
  have h : tDc wi g tt tk tv (own.map (·.2)) σ H (fun x H1 => gName i x σ H1 D.nx) := h
  refine wpAny_bind (thn (dc_core (Qf := fun _ s' => SP X pins D .next s') hc hN I hi ok hg ht hk he hs h fun L C s' m H' I' q hn f => ?_) fun _ s' hq => wpAny_pure (wpAny_pure hq))
  show wpAny _ _ (assign (.Name y py) X.env (.ref L)) _ _ _
  refine wpAny_assign_Name (store_ok2 (v := V.ref L) I' hN hy (.inl hyl) rfl (fun s2 I2 ⟨a, sb, ha⟩ => ?_) (.inr hyl))
  obtain ⟨f0, f1, f2, f3, f4, f5⟩ := f
  have haC : C ≠ a := by
    rcases ha with z | z
    · rw [z]; exact f1
    · exact fun e => f4 y a z e.symm
  refine ⟨m, hn.sameBut sb haC, fun h3 sb3 => ?_⟩
  exact ⟨_, H', I2.turned (t' := s2.toks) (fun b o hb e => (sb3.2 b hb).trans e) f0 f1 f3 f4 f5, q⟩
theorem ps_setDcT {X : Cx} {i : Nat} {y : Str} {py : Pos} {kx vx tg iter : Expr} {ifs : List Expr} {scope : Scope} {own : List (Str × Nat)} {pos spos : Pos} {wi : TI} {g : TG} {tt : TT} {tk tv : TE} (hc : X.calm = true) (hu : X.A.units + 1 < cLine) (hN : X.N.Nodup) (hy : X.N[i]? = some y) (hyl : X.env.scope.names.lookup y = some .local)
    (hsw : swapsWith (.DictComp kx vx [⟨tg, iter, ifs, 0⟩] scope pos) (some (.Name y py)) spos.line X.env = pure true) (hi : PI X tg iter wi) (ok : BlkOk X.N X.env.scope scope own)
    (hg : ∀ (s : Shared) (H : Hp) (C : Addr) (cl : List (Str × Addr)) (fp : List Addr), PG (X.blk s H scope (compEnvC scope cl C X.env) fp) tg g) (ht : ∀ (s : Shared) (H : Hp) (C : Addr) (cl : List (Str × Addr)) (fp : List Addr), PTs (X.blk s H scope (compEnvC scope cl C X.env) fp) ifs tt)
    (hk : ∀ (s : Shared) (H : Hp) (C : Addr) (cl : List (Str × Addr)) (fp : List Addr), PE (X.blk s H scope (compEnvC scope cl C X.env) fp) kx tk)
    (he : ∀ (s : Shared) (H : Hp) (C : Addr) (cl : List (Str × Addr)) (fp : List Addr), PE (X.blk s H scope (compEnvC scope cl C X.env) fp) vx tv) (hs : ∀ x, foldedSetIterable iter X.env x = pure x := by intro _; rfl) :
    PS X (.Assign [.Name y py] (.DictComp kx vx [⟨tg, iter, ifs, 0⟩] scope pos) spos) (tAsg (tDcT wi g tt tk tv (own.map (·.2))) (gName i)) := by
  refine ⟨fun pins s σ H D I h => ?_⟩
  rw [exec_Assign_Name_used _ _ _ _ hsw]
  refine wpAny_bind (wpAny_standAt (wpAny_bind ?_))
  show wpAny _ X.A (do let _ ← comprehension (.DictComp kx vx [⟨tg, iter, ifs, 0⟩] scope pos) scope X.env (firstIterPos [⟨tg, iter, ifs, 0⟩] pos) newDict false (eval iter X.env) (some (assign (.Name y py) X.env))) _ _ s
  have h : tDcT wi g tt tk tv (own.map (·.2)) σ H (fun x H1 => gName i x σ H1 D.nx) := h
  refine wpAny_bind (thn (dcT_core (Qf := fun _ s' => SP X pins D .next s') hc hu hN I hi ok hg ht hk he hs h fun L C s' m H' I' q hn f => ?_) fun _ s' hq => wpAny_pure (wpAny_pure hq))
  show wpAny _ _ (assign (.Name y py) X.env (.ref L)) _ _ _
  refine wpAny_assign_Name (store_ok2 (v := V.ref L) I' hN hy (.inl hyl) rfl (fun s2 I2 ⟨a, sb, ha⟩ => ?_) (.inr hyl))
  obtain ⟨f0, f1, f2, f3, f4, f5⟩ := f
  have haC : C ≠ a := by
    rcases ha with z | z
    · rw [z]; exact f1
    · exact fun e => f4 y a z e.symm
  refine ⟨m, hn.sameBut sb haC, fun h3 sb3 => ?_⟩
  exact ⟨_, H', I2.turned (t' := s2.toks) (fun b o hb e => (sb3.2 b hb).trans e) f0 f1 f3 f4 f5, q⟩
theorem sw_trueD {kx vx : Expr} {gs : List Comprehension} {scope : Scope} {pos py : Pos} {y : Str} {l : Nat} {env : PySem.Env} (hk : env.scope.kind = .function) (hy : env.scope.names.lookup y = some .local) (hl : (py.line == pos.line) = true)
    (ha : (scope.names.any fun (n, k) => n == y && (k == .local || k == .cell)) = false) : swapsWith (.DictComp kx vx gs scope pos) (some (.Name y py)) l env = pure true := by
  have ky : env.kindOf y = some .local := hy
  have hb : env.blockKind = .function := by unfold Env.blockKind; rw [hk]; rfl
  unfold swapsWith
  simp only [hb, ky, ha, Expr.pos, hl]
  rfl
theorem l_setDc {g : G} {k : Nat} {sc scope : Scope} {X : Cx} {p : Pm} {kx vx t it : Expr} {pos spos py : Pos} {y : Str} {iy : Nat} {tt : T} {i : I} {kk x : E} (ok : OkX g k true sc X p)
    (hb : blkC g.N sc scope (ownOf g.N scope.names) = true) (hi : PI X t it (tI p i)) (htt : cT g scope t = some tt) (hids : (tt.ids.all fun j => ((ownOf g.N scope.names).map (·.2)).contains j) = true) (hfold : ∀ y, foldedSetIterable it X.env y = pure y)
    (ht : ∀ X', OkX g k true (relS scope sc) X' p.blk → PTs X' [] (tF p.blk .no)) (hk : ∀ X', OkX g k true (relS scope sc) X' p.blk → PE X' kx (tE p.blk kk)) (he : ∀ X', OkX g k true (relS scope sc) X' p.blk → PE X' vx (tE p.blk x))
    (hy : X.N[iy]? = some y) (hyl : X.env.scope.names.lookup y = some .local) (hsw : swapsWith (.DictComp kx vx [⟨t, it, [], 0⟩] scope pos) (some (.Name y py)) spos.line X.env = pure true) :
    PS X (.Assign [.Name y py] (.DictComp kx vx [⟨t, it, [], 0⟩] scope pos) spos) (tAsg (tEf p (.dc ((ownOf g.N scope.names).map (·.2)) tt i kk x)) (gName iy)) := by
  have hnd : X.N.Nodup := by rw [ok.hN]; exact ok.nd
  have hblk : BlkOk X.N X.env.scope scope (ownOf g.N scope.names) := by rw [ok.hN, ok.sc]; exact blkOk_by hb
  refine ⟨fun pins s σ H D I h => ?_⟩
  obtain ⟨A, env, pre, q⟩ := (h : tEf p (.dc ((ownOf g.N scope.names).map (·.2)) tt i kk x) σ H _)
  rcases evE_dc p.Φ ((ownOf g.N scope.names).map (·.2)) tt i kk x env with e | ⟨e, hne⟩
  · exact (ps_setDc (g := gT X.K tt) (tt := tF p.blk .no) (tk := tE p.blk kk) (tv := tE p.blk x) (own := ownOf g.N scope.names) ok.cal hnd hy hyl hsw hi hblk (fun s H C cl fp => cT_ok (X := X.blk s H scope (compEnvC scope cl C X.env) fp) ok.hN ok.nd (.inl ok.cal) (stOk_blk s H C cl fp) htt) (fun s H C cl fp => ht _ (ok.blk s H C cl fp)) (fun s H C cl fp => hk _ (ok.blk s H C cl fp)) (fun s H C cl fp => he _ (ok.blk s H C cl fp)) hfold).run pins s σ H D I (i_dcK ok htt hids _ _ _ ⟨A, env, pre, by rw [← e]; exact q⟩)
  · exact (ps_setDcT (g := gT X.K tt) (tt := tF p.blk .no) (tk := tE p.blk kk) (tv := tE p.blk x) (own := ownOf g.N scope.names) ok.cal (by have := ok.un; omega) hnd hy hyl hsw hi hblk (fun s H C cl fp => cT_ok (X := X.blk s H scope (compEnvC scope cl C X.env) fp) ok.hN ok.nd (.inl ok.cal) (stOk_blk s H C cl fp) htt) (fun s H C cl fp => ht _ (ok.blk s H C cl fp)) (fun s H C cl fp => hk _ (ok.blk s H C cl fp)) (fun s H C cl fp => he _ (ok.blk s H C cl fp)) hfold).run pins s σ H D I (i_dcT ok htt hids _ _ _ ⟨A, env, pre, by rw [← e]; exact q, hne⟩)
theorem swap_false {e : Expr} {x : E} {l : Nat} {env : PySem.Env} {y : Str} {py : Pos} (h : cE g n cm sc e = some x) (hs : swB sc (.Name y py) e = some false) (hk : env.kindOf y = sc.names.lookup y) : swapsWith e (some (.Name y py)) l env = pure false := by
  cases n with
  | zero => simp [cE] at h
  | succ n =>
    cases e with
    | ListComp elt gens scope pos =>
      simp only [swB, Option.some.injEq] at hs
      show (pure (env.blockKind == .function && env.kindOf y == some .local && (py.line == pos.line) && !(scope.names.any fun (n, k) => n == y && (k == .local || k == .cell))) : Sem Bool) = pure false
      congr 1
      rw [hk]
      revert hs
      generalize (py.line == pos.line) = c1
      generalize (sc.names.lookup y == some .local) = c2
      generalize (!(scope.names.any fun (n, k) => n == y && (k == .local || k == .cell))) = c3
      generalize (env.blockKind == .function) = c4
      cases c1 <;> cases c2 <;> cases c3 <;> cases c4 <;> simp
    | DictComp a b gens scope pos =>
      simp only [swB, Option.some.injEq] at hs
      show (pure (env.blockKind == .function && env.kindOf y == some .local && (py.line == pos.line) && !(scope.names.any fun (n, k) => n == y && (k == .local || k == .cell))) : Sem Bool) = pure false
      congr 1
      rw [hk]
      revert hs
      generalize (py.line == pos.line) = c1
      generalize (sc.names.lookup y == some .local) = c2
      generalize (!(scope.names.any fun (n, k) => n == y && (k == .local || k == .cell))) = c3
      generalize (env.blockKind == .function) = c4
      cases c1 <;> cases c2 <;> cases c3 <;> cases c4 <;> simp
    | _ => first | rfl | (simp [cE] at h; done)
theorem s_asg1 {x : Str} {px : Pos} {e : Expr} {ir : E} {i : Nat} (ok : OkT g k cm sc X p) (hpin : pinB g (.n i) = false) (hi : ix? x g.N 0 = some i) (hl : locB sc x = true) (h : cE g n cm sc e = some ir) (hs : (swB sc (.Name x px) e).isNone = false) (hfr : ir.fresh = true → frE e = true) :
    PS X (.Assign [.Name x px] e pos) (tS p (evS p.Φ fu (.asg (.n i) ir))) := by
  have hN : X.N.Nodup := by rw [ok.hN]; exact ok.nd
  have hi2 : X.N[i]? = some x := by rw [ok.hN]; exact ix?_zero hi
  obtain ⟨st1, st2⟩ := ok.st x hl
  have hil : p.may i := ok.may hpin (by simp [T.ids]) (ix?_lt hi)
  have fin : ∀ {D : Ends} {σ : L2.St} {H : Hp}, tS p (evS p.Φ fu (.asg (.n i) ir)) D σ H → (ir.fresh = true → tEf p ir σ H fun v H1 => D.nx (σ.set i (some v)) H1) ∧ (ir.fresh = false → tE p ir σ H fun v H1 => D.nx (σ.set i (some v)) H1) := by
    rintro D σ H ⟨H0, A, env, ⟨ow, h⟩, q⟩
    simp only [evS] at q
    exact ⟨fun hf => ⟨_, env, h.pre _, (onR_use h q).mono fun d H1 s ⟨h1, q⟩ v hv tn => q _ _ (h.put hil s hv fun _ => tn)⟩,
      fun hf => ⟨_, env, h.pre _, (onR_use h q).mono fun d H1 s ⟨h1, q⟩ v hv => q _ _ (h.put hil s hv fun z => by rw [hf] at z; cases z)⟩⟩
  cases hsw : swB sc (.Name x px) e with
  | none => rw [hsw] at hs; cases hs
  | some b =>
    cases b with
    | false =>
      cases hf : ir.fresh with
      | false => exact PS.imp (ps_set (pos' := px) hN hi2 st1 ((snd n).e _ _ _ _ _ _ ok.toOkX h) (swap_false h hsw (by show X.env.scope.names.lookup _ = _; rw [ok.sc])) st2) fun D σ H q => (fin q).2 hf
      | true =>
        cases n with
        | zero => simp [cE] at h
        | succ n => exact PS.imp (ps_set (pos' := px) hN hi2 st1 (l_fr (snd n) _ _ _ _ _ _ ok.toOkX h (hfr hf) hf) (swap_false h hsw (by show X.env.scope.names.lookup _ = _; rw [ok.sc])) st2) fun D σ H q => (fin q).1 hf
    | true =>
      unfold swB at hsw
      split at hsw
      · rename_i y py elt gens scope cpos e1
        cases e1
        simp only [Option.some.injEq, Bool.and_eq_true] at hsw
        · obtain ⟨c1, c2⟩ := hsw
          · simp only [Bool.and_eq_true, Bool.not_eq_true', beq_iff_eq] at c2
            cases n with
            | zero => simp [cE] at h
            | succ n =>
              unfold cE at h
              split at h
              all_goals try (rename_i e; cases e; done)
              · rename_i e
                cases e
                split at h
                · cases h
                rename_i hb
                simp only [Bool.or_eq_true, not_or, Bool.not_eq_true', Bool.not_eq_false] at hb
                obtain ⟨rfl, hb⟩ := hb
                simp only [Option.bind_eq_some_iff] at h
                obtain ⟨ii, hii, tt, htt, h⟩ := h
                split at h
                · cases h
                rename_i hids
                simp only [Bool.not_eq_true', Bool.not_eq_false] at hids
                simp only [Option.bind_eq_some_iff, Option.map_eq_some_iff] at h
                obtain ⟨cc, hc, xx, hx, rfl⟩ := h
                have hsc : X.env.scope.names.lookup x = some .local := by rw [ok.sc]; exact c2.1
                refine ⟨fun pins s σ H D I q => ?_⟩
                exact (l_setLc ok.toOkX hb ((snd n).i _ _ _ _ _ _ _ ok.toOkX hii) htt hids (fold_of hii X.env) (fun X' ok' => (snd n).f _ _ _ _ _ _ ok' hc) (fun X' ok' => (snd n).e _ _ _ _ _ _ ok' hx) hi hsc
                  (sw_true I.ok.kind hsc c1 c2.2)).run pins s σ H D I ((fin q).1 rfl)
              · cases h
      · rename_i y py kx vx elt scope cpos e1
        cases e1
        · have hcc := hsw
          simp only [Option.some.injEq, Bool.and_eq_true] at hcc
          obtain ⟨c1, c2a, c2b⟩ := hcc
          simp only [beq_iff_eq] at c2a
          simp only [Bool.not_eq_true'] at c2b
          cases n with
          | zero => simp [cE] at h
          | succ n =>
            unfold cE at h
            split at h
            all_goals try (rename_i e; cases e; done)
            · rename_i e
              cases e
              split at h
              · cases h
              rename_i hb
              simp only [Bool.or_eq_true, not_or, Bool.not_eq_true', Bool.not_eq_false] at hb
              obtain ⟨rfl, hb⟩ := hb
              simp only [Option.bind_eq_some_iff] at h
              obtain ⟨ii, hii, tt, htt, h⟩ := h
              split at h
              · cases h
              rename_i hids
              simp only [Bool.not_eq_true', Bool.not_eq_false] at hids
              simp only [Option.bind_eq_some_iff, Option.map_eq_some_iff] at h
              obtain ⟨yy, hyy, xx, hx, rfl⟩ := h
              have hcF : cF g n true (relS scope sc) [] = some .no := by
                cases n with
                | zero => simp [cE] at hyy
                | succ n => rfl
              have hsc : X.env.scope.names.lookup x = some .local := by rw [ok.sc]; exact c2a
              refine ⟨fun pins s σ H D I q => ?_⟩
              exact (l_setDc ok.toOkX hb ((snd n).i _ _ _ _ _ _ _ ok.toOkX hii) htt hids (fold_of hii X.env) (fun X' ok' => (snd n).f _ _ _ _ _ _ ok' hcF) (fun X' ok' => (snd n).e _ _ _ _ _ _ ok' hyy) (fun X' ok' => (snd n).e _ _ _ _ _ _ ok' hx) (by rw [ok.hN]; exact ix?_zero hi) hsc
                (sw_trueD I.ok.kind hsc c1 c2b)).run pins s σ H D I ((fin q).1 rfl)
            · cases h
      · cases hsw
theorem s_asgT {t e : Expr} {ir : E} {is : List Nat} (ok : OkT g k true sc X p) (hpin : pinB g (.t is) = false) (ht : cT g sc t = some (.t is)) (hne : ∀ es j q, e ≠ .Tuple es j q) (h : cE g n true sc e = some ir) : PS X (.Assign [t] e pos) (tS p (evS p.Φ fu (.asg (.t is) ir))) := by
  have htt : ∃ es j q, t = .Tuple es j q := by
    unfold cT at ht
    split at ht
    · split at ht
      · split at ht <;> cases ht
      · cases ht
    · exact ⟨_, _, _, rfl⟩
    · cases ht
  obtain ⟨es, j, q0, rfl⟩ := htt
  have hs : ∀ l, swapsWithSole [.Tuple es j q0] e l X.env = pure false := fun l => by
    cases e <;> rfl
  have hw : swappedStores [.Tuple es j q0] e X.env = pure none := by
    unfold swappedStores
    cases e <;> first | rfl | exact absurd rfl (hne _ _ _)
  refine PS.imp (ps_asg ((snd n).e _ _ _ _ _ _ ok.toOkX h) (cT_ok ok.hN ok.nd (.inl ok.cal) ok.st ht) (hs _) hw rfl) fun D σ H ⟨H0, A, env, ⟨ow, h⟩, q⟩ => ?_
  simp only [evS] at q
  refine ⟨_, env, h.pre _, (onR_use h q).mono fun d H1 s ⟨h1, q⟩ v hv => ?_⟩
  obtain ⟨h2, r2⟩ := h1.shr ir.vars hv
  cases has : asgT (.t is) d (shr ir.vars d env) with
  | none => rw [has] at q; exact q.elim
  | some env1 =>
    rw [has] at q
    exact gT_mono (gT_SR has (fun i hi => ok.may hpin hi (cT_lt ht i hi)) r2 h2) fun σ2 H2 ⟨e, h3⟩ => q _ _ ⟨ow, by rw [e]; exact h3⟩
end
end PC
set_option Elab.async false
set_option linter.all false
namespace PC
open PySem PySem.Spec PyProof.Rows L2
def ipD (o : Op) : TIp := fun x y H Q => ∃ a b c, x = .int a ∧ y = .int b ∧ augD o a (.int b) = .ok (.int c) ∧ Q (.int c) H
theorem ip_D {X : Cx} (o : Op) : PIp X (opS o) (ipD o) := by
  intro pins s σ H x y v u Q I r1 r2 h
  obtain ⟨a, b, c, rfl, rfl, e, q⟩ := h
  obtain ⟨t, rfl⟩ := r1
  obtain ⟨t', rfl⟩ := r2
  cases o with
  | add => cases e; exact iadd_int ⟨.int _, H, I.tok _, ⟨_, rfl⟩, q⟩
  | sub => cases e; exact isub_int ⟨.int _, H, I.tok _, ⟨_, rfl⟩, q⟩
  | mul =>
    simp only [augD] at e
    split at e
    · rename_i c
      cases e
      refine imul_int ⟨.int _, H, I.tok _, ⟨_, rfl⟩, q⟩ ?_
      have c := mulOk_iff c
      rcases c with (c | c) | c
      · exact .of_left (intBits_le_64 c.1 c.2)
      · exact .of_right (intBits_le_64 c.1 c.2)
      · exact CMulW.ok c
    · cases e
  | div =>
    simp only [augD] at e
    split at e
    · rename_i c
      cases e
      refine AutoIntOps.ifloordiv_1 (by simp; omega) (by rw [PyProof.noPylong_of_log2 c.2]; decide) ?_
      show EP X pins σ Q (.int (a.fdiv b) s.toks) { s with toks := s.toks + 1 }
      rw [Int.fdiv_eq_ediv_of_nonneg a (by omega)]
      exact ⟨.int _, H, I.tok _, ⟨_, rfl⟩, q⟩
    · cases e
  | _ => cases e
section
variable {g : G} {k n fu : Nat} {cm : Bool} {sc : Scope} {X : Cx} {p : Pm} {pos : Pos}
theorem s_aug {x : Str} {px : Pos} {e : Expr} {ir : E} {i : Nat} {o : Operator} {o' : Op} (ok : OkT g k cm sc X p) (hpin : pinB g (.n i) = false) (hi : ix? x g.N 0 = some i) (hl : locB sc x = true) (ho : opOf o = some o') (h : cE g n cm sc e = some ir) :
    PS X (.AugAssign (.Name x px) o e pos) (tS p (evS p.Φ fu (.aug i o' ir))) := by
  have hN : X.N.Nodup := by rw [ok.hN]; exact ok.nd
  have hi2 : X.N[i]? = some x := by rw [ok.hN]; exact ix?_zero hi
  obtain ⟨st1, st2⟩ := ok.st x hl
  have hil : p.may i := ok.may hpin (by simp [T.ids]) (ix?_lt hi)
  rw [opOf_eq ho]
  refine PS.imp (ps_aug hN hi2 st1 ((snd n).e _ _ _ _ _ _ ok.toOkX h) (ip_D o') st2) fun D σ H ⟨H0, A, env, ⟨ow, hh⟩, q⟩ => ?_
  simp only [evS] at q
  split at q
  · rename_i a e1
    obtain ⟨v, e2, hv⟩ := hh.frz i _ e1
    cases hv
    refine ⟨_, e2, _, env, hh.pre _, (onR_use hh q).mono fun d H1 s ⟨h1, q⟩ y hy => ?_⟩
    split at q
    · rename_i z e3
      have hd : ∃ b, d = .int b := by
        cases o' <;> cases d <;> first | exact ⟨_, rfl⟩ | (simp [augD] at e3; done)
      obtain ⟨b, rfl⟩ := hd
      cases hy
      exact ⟨a, b, z, rfl, rfl, e3, q _ _ ⟨ow, h1.setF hil (.int _)⟩⟩
    · exact q.elim
  · exact q.elim
/-- a name that holds an owned list -/
theorem SRo.cell {H0 H : Hp} {A : Addr → Prop} {env : Env} {σ : L2.St} {ow : Nat → Addr} {i : Nat} {l : List D} (h : SRo p H0 A env σ H ow) (e : geti env i = .o (.list l)) :
    ∃ xs, σ[i]? = some (some (.ref (ow i))) ∧ H (ow i) = some (.lst xs) ∧ xs.length ≤ sizeLine ∧ RpA (Av A env ow) H xs l := by
  obtain ⟨e1, _, o, e2, r⟩ := h.own i _ e
  cases r with
  | lst z r => exact ⟨_, e1, e2, z, r⟩
theorem geti_shr {vs : List Nat} {d : D} {env : Env} {i : Nat} {x : D} (h : geti (PC.shr vs d env) i = .o x) : geti env i = .o x := by
  unfold PC.shr at h
  split at h
  · exact h
  · exact (frz_o h).1
theorem geti_ifz {vs : List Nat} {c : Bool} {env : Env} {i : Nat} {x : D} (h : geti (if c then env else frzS vs 0 env) i = .o x) : geti env i = .o x := by
  split at h
  · exact h
  · exact (frz_o h).1
/-- a built-in method of a named list as a statement, one argument -/
theorem ps_m1 {x : Str} {px ap cp : Pos} {m : Str} {a : Expr} {i : Nat} {id : String} {r : V → List V → Hp → VK → Prop} {y : E} (ok : OkT g k cm sc X p) (hi : ix? x g.N 0 = some i) (hv : visB sc x = true) (hd : (x == ("__debug__" : Str)) = false) (hcd : (x == ("__classdict__" : Str)) = false)
    (slot : Slot "list" m id) (hty : typeOf (.builtin id) = pure (.type "method_descriptor")) (hm : MtR X id r) (hline : (ap.endLine == cp.line) = true) (hy : cE g n cm sc a = some y) :
    PS X (.Expr (.Call (.Attribute (.Name x px) m ap) [a] [] cp) pos) (tDrop (tBM X.K "list" r (tVar i) (tCons (tE p y) tNil))) := by
  have hi2 : X.N[i]? = some x := by rw [ok.hN]; exact ix?_zero hi
  refine ps_expr (pe_bm PySem.F.plainAttrs_list slot hty hm (pe_var hi2 (by rw [ok.sc]; exact vis_of hv) hd hcd) (pa_cons ((snd n).e _ _ _ _ _ _ ok.toOkX hy) pa_nil (star_of hy [] X.env)) rfl (by rw [star_of hy [] X.env]; rfl) hline (star_of hy [] X.env) rfl) rfl
theorem not_before {k : Int} : ∀ (ns : List Int) (m : Nat), m < ns.idxOf k → ns[m]? ≠ some k
  | [], m, h => by simp at h
  | a :: r, 0, h => by
    intro e
    simp at e
    subst e
    simp at h
  | a :: r, m + 1, h => by
    rw [List.getElem?_cons_succ]
    refine not_before r m ?_
    rw [List.idxOf_cons] at h
    cases c : (a == k) with
    | true => simp [c] at h
    | false =>
      simp only [c, cond_false] at h
      omega
theorem list_extend_tupG (l : Addr) (items : Array Value) (n : Nat) (b : Addr) (items2 : Array Value) (n2 : Nat) (dct : Option Addr) (sl : Array (Option Value)) (hs0 : ¬(!items.isEmpty && Builtin.List.listTooLong (items.size + items2.size)) = true) (hs1 : items.size ≤ sizeLine) (hs2 : items.size + items2.size ≤ sizeLine + 1) :
    Meets (Builtin.«list.extend» ⟨[.ref l, .ref b], []⟩) (fun _ R s => s.heap.get? l = some { cls := .type "list", dict := none, data := .seq items n, slots := #[] } ∧ s.heap.get? b = some { cls := .type "tuple", dict := dct, data := .seq items2 n2, slots := sl } ∧ R (.ok (.ret Value.none)) { s with heap := s.heap.update l (Obj.mapSeq fun x => x ++ items2), toks := s.toks }) :=
  .of_wp fun prog w A R s h => by
    obtain ⟨hp, g, d, tk, os⟩ := s; obtain ⟨hl, hb, h⟩ := h; have f1 := AutoSeq1.idx_int; have f2 := AutoSeq1.sub_tuple_tuple; have f3 := AutoSeq1.sub_list_list; have f4 := AutoSeq1.sub_tuple_list; have f5 := AutoSeq1.sub_list_tuple;
    have hz' : (items ++ items2).size ≤ sizeLine + 1 := by rw [Array.size_append]; exact hs2
    wp_walk using (wpAny_updateSeq hl rfl (hz := hs1) (_hz' := hz')), AutoSeq1.wpAny_loadPart' hl, AutoSeq1.wpAny_loadPart' hb; exact ⟨_, rfl, h⟩
def rExtD : V → List V → Hp → VK → Prop := fun x vs H Q => ∃ l b xs zs, x = .ref l ∧ vs = [.ref b] ∧ H l = some (.lst xs) ∧ (Rd H b (.lst zs) ∨ Rd H b (.tup zs)) ∧ xs.length + zs.length ≤ sizeLine ∧ Q .non (upd H l (.lst (xs ++ zs)))
theorem mt_extD {X : Cx} : MtR X "list.extend" rExtD := by
  intro pins s σ H x vs v us Q I rx rv h
  obtain ⟨l, b, xs, zs, rfl, rfl, hH, hB, hz, q⟩ := h
  cases rx
  obtain ⟨u, rfl, ru⟩ := rv.one
  cases ru
  obtain ⟨z, its, n, r, hl, e⟩ := I.lstM hH
  rcases hB with hB | hB
  · obtain ⟨z2, its2, n2, r2, e2⟩ := hB.ok I.hok
    have hl2 := r2.length
    have hsz : its.toArray.size + its2.toArray.size ≤ sizeLine := by rw [List.size_toArray, List.size_toArray]; omega
    have hlong : ¬ (!its.toArray.isEmpty && Builtin.List.listTooLong (its.toArray.size + its2.toArray.size)) = true := by
      rw [notLongL hsz, Bool.and_false]
      exact Bool.false_ne_true
    refine call_meets F.slot_list_extend ⟨_, e, rfl⟩ F.entry_list_extend (F.args_list_extend_2 _ _)
      (AutoSeq1.list_extend_list_list_0 l its.toArray n b its2.toArray n2 hlong (by rw [List.size_toArray]; omega) (by omega)) ⟨e, e2, ?_⟩
    refine ⟨.non, _, I.lset (its' := its ++ its2) hH e (by simp) (r.append r2) ?_, rfl, q⟩
    rw [List.length_append]
    omega
  · obtain ⟨z2, its2, r2, o2, e2, hc2, n2, hd2⟩ := hB.ok I.hok
    obtain ⟨cls, dct, dat, sl⟩ := o2
    cases hc2
    cases hd2
    have hl2 := r2.length
    have hsz : its.toArray.size + its2.toArray.size ≤ sizeLine := by rw [List.size_toArray, List.size_toArray]; omega
    have hlong : ¬ (!its.toArray.isEmpty && Builtin.List.listTooLong (its.toArray.size + its2.toArray.size)) = true := by
      rw [notLongL hsz, Bool.and_false]
      exact Bool.false_ne_true
    refine call_meets F.slot_list_extend ⟨_, e, rfl⟩ F.entry_list_extend (F.args_list_extend_2 _ _)
      (list_extend_tupG l its.toArray n b its2.toArray n2 dct sl hlong (by rw [List.size_toArray]; omega) (by omega)) ⟨e, e2, ?_⟩
    refine ⟨.non, _, I.lset (its' := its ++ its2) hH e (by simp) (r.append r2) ?_, rfl, q⟩
    rw [List.length_append]
    omega
theorem s_app {x : Str} {px ap cp : Pos} {a : Expr} {i : Nat} {y : E} (ok : OkT g k cm sc X p) (hi : ix? x g.N 0 = some i) (hv : visB sc x = true) (hd : (x == ("__debug__" : Str)) = false) (hcd : (x == ("__classdict__" : Str)) = false) (hline : (ap.endLine == cp.line) = true) (hy : cE g n cm sc a = some y) :
    PS X (.Expr (.Call (.Attribute (.Name x px) "append" ap) [a] [] cp) pos) (tS p (evS p.Φ fu (.app i y))) := by
  refine PS.imp (ps_m1 ok hi hv hd hcd PySem.F.slot_list_append PySem.F.type_list_append mt_append hline hy) fun D σ H ⟨H0, A, env, ⟨ow, hh⟩, q⟩ => ?_
  simp only [evS] at q
  split at q
  · rename_i l e1
    obtain ⟨xs, c1, c2, c3, c4⟩ := hh.cell e1
    refine ⟨_, c1, .inl ⟨rfl, xs, .inl (.inl c2)⟩, _, env, hh.pre _, (onR_use hh q).mono fun d H1 s ⟨h1, q⟩ v hv => ?_⟩
    obtain ⟨h2, r2⟩ := h1.shr y.vars hv
    split at q
    · rename_i d0 e2
      have e3 := geti_shr e2
      rw [e1] at e3
      cases e3
      obtain ⟨xs', c1', c2', c3', c4'⟩ := h2.cell e2
      split at q
      · rename_i hc
        have hl := c4'.length
        have hcap : cap < sizeLine := by rw [sizeLine_eq]; decide
        exact ⟨ow i, xs', v, rfl, rfl, c2', by omega, q _ _ ⟨ow, h2.mut e2 (by rw [List.length_append]; simp; omega) (c4'.append (.cons r2 .nil))⟩⟩
      · exact q.elim
    · exact q.elim
  · exact q.elim
theorem RpA.eraseIdx {A : Addr → Prop} {H : Hp} : ∀ {ds : List D} {vs : List V}, RpA A H vs ds → ∀ j, RpA A H (vs.eraseIdx j) (ds.eraseIdx j)
  | _, _, .nil, j => by simp; exact .nil
  | _, _, .cons h r, 0 => by simpa using r
  | _, _, .cons h r, j + 1 => by
    rw [List.eraseIdx_cons_succ, List.eraseIdx_cons_succ]
    exact .cons h (RpA.eraseIdx r j)
/-- list.remove, its items read as data -/
def rRemD (K : PySem.W.Frag) : V → List V → Hp → VK → Prop := fun x xs H Q => ∃ (l : Addr) (y : V) (d : D) (ds : List D) (ws : List V) (j : Nat) (z : D), x = .ref l ∧ xs = [y] ∧ H l = some (.lst ws) ∧ DpAll K H ws ds ∧ Dp K H y d ∧ SeqAt.shaped (.list ds) = true ∧ SeqAt.shaped d = true ∧
  ds[j]? = some z ∧ PyData.eqv z d = true ∧ (∀ (m : Nat) (z' : D), m < j → ds[m]? = some z' → PyData.eqv z' d = false) ∧ Q .non (upd H l (.lst (ws.eraseIdx j)))
theorem Vals.eraseIdx' : ∀ {xs : List V} {us : List Value}, Vals xs us → ∀ j, Vals (xs.eraseIdx j) (us.eraseIdx j)
  | _, _, .nil, j => by simp; exact .nil
  | _, _, .cons h r, 0 => by simpa using r
  | _, _, .cons h r, j + 1 => by
    rw [List.eraseIdx_cons_succ, List.eraseIdx_cons_succ]
    exact .cons h (Vals.eraseIdx' r j)
theorem mt_removeX {X : Cx} (hu : X.A.units + 65 < cLine) : MtR X "list.remove" (fun x xs H Q => rRemI x xs H Q ∨ rRemD X.K x xs H Q) := by
  intro pins s σ H x xs v us Q I rx rxs h
  rcases h with h | h
  · exact mt_remove pins s σ H x xs v us Q I rx rxs h
  · obtain ⟨l, y, d, ds, ws, j, z, rfl, rfl, hH, ha, hy, sl, sd, hz, hzj, hno, q⟩ := h
    cases rx
    obtain ⟨uy, rfl, ry⟩ := rxs.one
    obtain ⟨bs, r1⟩ := Dp.reads I d y uy hy ry
    have hroom : X.A.units + 1 + min (PyData.depthAll ds) d.depth < cLine := room_in_shaped sd hu
    obtain ⟨zl, its, n, rv, hlq, ho⟩ := I.lstM hH
    obtain ⟨as, h4⟩ := Dp.readsAll I ds _ its ha rv
    have hlen := SeqAt.ReadsAll.length ds its as h4
    have hread := SeqAt.readsAll_map ds its as (SeqAt.canLay_of_shaped sl) h4
    have hj : j < its.toArray.size := by
      have := (List.getElem?_eq_some_iff.mp hz).1
      rw [List.size_toArray]
      omega
    have item : ∀ (m : Nat) (hm : m < its.toArray.size), ds[m]? = some (SeqAt.readOf s.heap its.toArray[m]) := fun m hm => by
      have hm' : m < its.length := by simpa using hm
      rw [← hread, List.getElem?_map, List.getElem?_eq_getElem hm']
      simp
    have hvl := rv.length
    refine call_meets PySem.F.slot_list_remove ⟨_, ho, rfl⟩ PySem.F.entry_list_remove (PySem.F.args_list_remove_2 _ _)
      (SeqAt.list_removeAt l its.toArray n none #[] uy (fun u => PyData.eqv (SeqAt.readOf s.heap u) d) j hj ?_ ?_ (by rw [List.size_toArray]; omega)) ⟨ho, SeqAt.items_eqAt (vs := its.toArray) (show ReadsAll s.heap its.toArray.toList ds as from h4) r1 (SeqAt.canLay_of_shaped sl) (SeqAt.canLay_of_shaped sd) hroom, ?_⟩
    · have := item j hj
      rw [hz] at this
      rw [← Option.some.inj this]
      exact hzj
    · exact fun m hm hmj => hno m _ hmj (item m hm)
    · refine ⟨.non, _, I.lset (its' := its.eraseIdx j) (t' := s.toks) hH ho ?_ (Vals.eraseIdx' rv j) ?_, rfl, q⟩
      · show its.toArray.eraseIdxIfInBounds j = (its.eraseIdx j).toArray
        rw [List.eraseIdxIfInBounds_toArray]
      · exact Nat.le_trans (List.length_eraseIdx_le _ _) zl
theorem s_rem {x : Str} {px ap cp : Pos} {a : Expr} {i : Nat} {y : E} (ok : OkT g k cm sc X p) (hi : ix? x g.N 0 = some i) (hv : visB sc x = true) (hd : (x == ("__debug__" : Str)) = false) (hcd : (x == ("__classdict__" : Str)) = false) (hline : (ap.endLine == cp.line) = true) (hy : cE g n cm sc a = some y) :
    PS X (.Expr (.Call (.Attribute (.Name x px) "remove" ap) [a] [] cp) pos) (tS p (evS p.Φ fu (.rem i y))) := by
  refine PS.imp (ps_m1 ok hi hv hd hcd PySem.F.slot_list_remove PySem.F.type_list_remove (mt_removeX (by have := ok.un; omega)) hline hy) fun D σ H ⟨H0, A, env, ⟨ow, hh⟩, q⟩ => ?_
  simp only [evS] at q
  split at q
  · rename_i l e1
    obtain ⟨xs, c1, c2, c3, c4⟩ := hh.cell e1
    refine ⟨_, c1, .inl ⟨rfl, xs, .inl (.inl c2)⟩, _, env, hh.pre _, (onR_use hh q).mono fun d H1 s ⟨h1, q⟩ v hv => ?_⟩
    obtain ⟨xs', c1', c2', c3', c4'⟩ := h1.cell e1
    split at q
    · rename_i k ns e2 _
      cases hv
      have ee := c4'.asInts e2
      subst ee
      split at q
      · rename_i hk
        refine .inl ⟨ow i, ns, k, ns.idxOf k, rfl, rfl, c2', ?_, ?_, q _ _ ⟨ow, h1.mut e1 ?_ ?_⟩⟩
        · rw [List.getElem?_eq_getElem (List.idxOf_lt_length_of_mem hk)]
          simp
        · exact fun m hm => not_before ns m hm
        · rw [List.length_map]
          rw [List.length_map] at c3'
          exact Nat.le_trans (List.length_eraseIdx_le _ _) c3'
        · rw [List.erase_eq_eraseIdx_of_idxOf rfl]
          exact RpA.ofInts
      · exact q.elim
    · rename_i tt _
      split at q
      · rename_i cc
        rw [Bool.and_eq_true] at cc
        split at q
        · rename_i jj e2
          obtain ⟨j, zz, e3, e4, e5, e6⟩ := indexD_spec _ _ _ e2
          have e7 : jj.toNat = j := by omega
          rw [e7] at q
          refine .inr ⟨ow i, v, .tuple tt, l, xs', j, zz, rfl, rfl, c2', RpA.dp _ _ (by
            have := noD_shaped cc.2
            simpa [noD] using this) c4', Rp.dp _ _ (noD_shaped cc.1) hv, cc.2, cc.1, e4, e5, fun m z' hm hz => e6 m z' hm hz, q _ _ ⟨ow, h1.mut e1 (Nat.le_trans (List.length_eraseIdx_le _ _) c3') (RpA.eraseIdx c4' j)⟩⟩
        · exact q.elim
      · exact q.elim
    · exact q.elim
  · exact q.elim
theorem s_rvs {x : Str} {px ap cp : Pos} {i : Nat} (ok : OkT g k cm sc X p) (hi : ix? x g.N 0 = some i) (hv : visB sc x = true) (hd : (x == ("__debug__" : Str)) = false) (hcd : (x == ("__classdict__" : Str)) = false) (hline : (ap.endLine == cp.line) = true) :
    PS X (.Expr (.Call (.Attribute (.Name x px) "reverse" ap) [] [] cp) pos) (tS p (evS p.Φ fu (.rvs i))) := by
  have hi2 : X.N[i]? = some x := by rw [ok.hN]; exact ix?_zero hi
  refine PS.imp (ps_expr (pe_bm0 PySem.F.plainAttrs_list PySem.F.slot_list_reverse PySem.F.type_list_reverse mt_reverse (pe_var hi2 (by rw [ok.sc]; exact vis_of hv) hd hcd) rfl hline) rfl) fun D σ H ⟨H0, A, env, ⟨ow, hh⟩, q⟩ => ?_
  simp only [evS] at q
  split at q
  · rename_i l e1
    obtain ⟨xs, c1, c2, c3, c4⟩ := hh.cell e1
    exact ⟨_, c1, .inl ⟨rfl, xs, .inl (.inl c2)⟩, ow i, xs, rfl, rfl, c2, q _ _ ⟨ow, hh.mut e1 (by rw [List.length_reverse]; exact c3) c4.reverse⟩⟩
  · exact q.elim
theorem s_srt {x : Str} {px ap cp : Pos} {i : Nat} (ok : OkT g k cm sc X p) (hi : ix? x g.N 0 = some i) (hv : visB sc x = true) (hd : (x == ("__debug__" : Str)) = false) (hcd : (x == ("__classdict__" : Str)) = false) (hline : (ap.endLine == cp.line) = true) :
    PS X (.Expr (.Call (.Attribute (.Name x px) "sort" ap) [] [] cp) pos) (tS p (evS p.Φ fu (.srt i))) := by
  have hi2 : X.N[i]? = some x := by rw [ok.hN]; exact ix?_zero hi
  refine PS.imp (ps_expr (pe_bm0 PySem.F.plainAttrs_list PyProof.Rows.slot_list_sort (by first | exact PySem.F.type_list_sort | exact PyProof.Rows.type_list_sort | (show builtinType _ = _; rw [builtinType_eq_fast]; kernel_rfl)) mt_sortI (pe_var hi2 (by rw [ok.sc]; exact vis_of hv) hd hcd) rfl hline) rfl) fun D σ H ⟨H0, A, env, ⟨ow, hh⟩, q⟩ => ?_
  simp only [evS] at q
  split at q
  · rename_i l e1
    obtain ⟨xs, c1, c2, c3, c4⟩ := hh.cell e1
    split at q
    · rename_i ns e2
      have ee := c4.asInts e2
      subst ee
      refine ⟨_, c1, .inl ⟨rfl, _, .inl (.inl c2)⟩, ow i, ns, rfl, rfl, c2, fun ns' hp hs => ?_⟩
      have e4 : ns' = isort ns := sorted_uniq hs (isort_sorted ns) (hp.trans (isort_perm ns).symm)
      subst e4
      refine q _ _ ⟨ow, hh.mut e1 ?_ RpA.ofInts⟩
      rw [List.length_map, hp.length_eq]
      rw [List.length_map] at c3
      exact c3
    · exact q.elim
  · exact q.elim
theorem s_ext {x : Str} {px ap cp : Pos} {a : Expr} {i : Nat} {y : E} (ok : OkT g k cm sc X p) (hi : ix? x g.N 0 = some i) (hv : visB sc x = true) (hd : (x == ("__debug__" : Str)) = false) (hcd : (x == ("__classdict__" : Str)) = false) (hline : (ap.endLine == cp.line) = true) (hy : cE g n cm sc a = some y) :
    PS X (.Expr (.Call (.Attribute (.Name x px) "extend" ap) [a] [] cp) pos) (tS p (evS p.Φ fu (.ext i y))) := by
  refine PS.imp (ps_m1 ok hi hv hd hcd PySem.F.slot_list_extend PySem.F.type_list_extend mt_extD hline hy) fun D σ H ⟨H0, A, env, ⟨ow, hh⟩, q⟩ => ?_
  simp only [evS] at q
  split at q
  · rename_i l e1
    obtain ⟨xs, c1, c2, c3, c4⟩ := hh.cell e1
    refine ⟨_, c1, .inl ⟨rfl, xs, .inl (.inl c2)⟩, _, env, hh.pre _, (onR_use hh q).mono fun d H1 s ⟨h1, q⟩ v hv => ?_⟩
    cases e2 : lstD d with
    | none => rw [e2] at q; exact q.elim
    | some m =>
      rw [e2] at q
      simp only at q
      have key : ∃ b zs, v = .ref b ∧ (Rd H1 b (.lst zs) ∨ Rd H1 b (.tup zs)) ∧ RpA (AvS A env ow y.vars) H1 zs m := by
        cases hv with
        | lst n h z ra => cases e2; exact ⟨_, _, rfl, .inl h, ra⟩
        | tup n h z ra => cases e2; exact ⟨_, _, rfl, .inr h.rd, ra⟩
        | _ => cases e2
      obtain ⟨b, zs, rfl, hb, ra⟩ := key
      obtain ⟨h2, r2⟩ := h1.shrA y.vars ra
      split at q
      · rename_i d0 e3
        have e4 := geti_ifz e3
        rw [e1] at e4
        cases e4
        obtain ⟨xs', c1', c2', c3', c4'⟩ := h2.cell e3
        split at q
        · rename_i hc
          have hl := c4'.length
          have hl2 := r2.length
          have hcap : cap < sizeLine := by rw [sizeLine_eq]; decide
          exact ⟨ow i, b, xs', zs, rfl, rfl, c2', hb, by omega, q _ _ ⟨ow, h2.mut e3 (by rw [List.length_append]; omega) (c4'.append r2)⟩⟩
        · exact q.elim
      · exact q.elim
  · exact q.elim
theorem s_ins {x : Str} {px ap cp : Pos} {a b : Expr} {i : Nat} {y z : E} (ok : OkT g k cm sc X p) (hi : ix? x g.N 0 = some i) (hv : visB sc x = true) (hd : (x == ("__debug__" : Str)) = false) (hcd : (x == ("__classdict__" : Str)) = false) (hline : (ap.endLine == cp.line) = true) (hy : cE g n cm sc a = some y) (hz : cE g n cm sc b = some z) :
    PS X (.Expr (.Call (.Attribute (.Name x px) "insert" ap) [a, b] [] cp) pos) (tS p (evS p.Φ fu (.ins i y z))) := by
  have hi2 : X.N[i]? = some x := by rw [ok.hN]; exact ix?_zero hi
  refine PS.imp (ps_expr (pe_bm PySem.F.plainAttrs_list PySem.F.slot_list_insert PySem.F.type_list_insert mt_insert (pe_var hi2 (by rw [ok.sc]; exact vis_of hv) hd hcd) (pa_cons ((snd n).e _ _ _ _ _ _ ok.toOkX hy) (pa_cons ((snd n).e _ _ _ _ _ _ ok.toOkX hz) pa_nil (star_of hz [] X.env)) (star_of hy [b] X.env)) rfl
    (by rw [star_of hy [b], star_of hz []]; rfl) hline (star_of hy [b] X.env) (by rw [star_of hz []]; rfl)) rfl) fun D σ H ⟨H0, A, env, ⟨ow, hh⟩, q⟩ => ?_
  simp only [evS] at q
  split at q
  · rename_i l e1
    obtain ⟨xs, c1, c2, c3, c4⟩ := hh.cell e1
    refine ⟨_, c1, .inl ⟨rfl, xs, .inl (.inl c2)⟩, _, env, hh.pre _, (onR_use hh q).mono fun d1 H1 s1 ⟨h1, q⟩ v hv => ⟨_, env, h1.pre _, (onR_use h1 q).mono fun d H2 s2 ⟨h2, q⟩ w hw => ?_⟩⟩
    obtain ⟨h3, r3⟩ := h2.shr z.vars hw
    split at q
    · rename_i kk d0 e2 _ _ _
      cases hv
      have e3 := geti_shr e2
      rw [e1] at e3
      cases e3
      obtain ⟨xs', c1', c2', c3', c4'⟩ := h3.cell e2
      split at q
      · rename_i hc
        have hl := c4'.length
        have hcap : cap < sizeLine := by rw [sizeLine_eq]; decide
        have hcap2 : cap < 2 ^ 60 := by decide
        refine ⟨ow i, xs', kk, w, rfl, rfl, c2', by omega, hc.1, by omega, q _ _ ⟨ow, ?_⟩⟩
        rw [List.append_assoc]
        refine h3.mut e2 ?_ ((c4'.take _).append (.cons r3 (c4'.drop _)))
        rw [List.length_append, List.length_append, List.length_take, List.length_drop, List.length_singleton]
        omega
      · exact q.elim
    · exact q.elim
  · exact q.elim
theorem SRo.keepMut {H0 H : Hp} {A : Addr → Prop} {env : Env} {σ : L2.St} {ow : Nat → Addr} {j : Nat} {d0 : D} {o : HO} (h : SRo p H0 A env σ H ow) (e : geti env j = .o d0) : Keep (Av A env ow) H (upd H (ow j) o) := fun b u e2 n => by
  rw [upd_ne (fun q => n (by rw [q]; exact .inr ⟨j, _, e, rfl⟩))]
  exact e2
theorem popOf_some {a b : Expr} {j : Nat} (h : popOf g sc a = some (j, b)) : ∃ y py ap cp, a = .Call (.Attribute (.Name y py) "pop" ap) [b] [] cp ∧ (ap.endLine == cp.line) = true ∧ visB sc y = true ∧ (y == ("__debug__" : Str)) = false ∧ (y == ("__classdict__" : Str)) = false ∧ ix? y g.N 0 = some j := by
  unfold popOf at h
  split at h
  · split at h
    · rename_i c
      simp only [Option.map_eq_some_iff, Prod.mk.injEq] at h
      obtain ⟨j', h1, rfl, rfl⟩ := h
      simp only [Bool.and_eq_true, Bool.not_eq_true'] at c
      obtain ⟨⟨⟨⟨c1, c2⟩, c3⟩, c4⟩, c5⟩ := c
      have c1 := eq_of_beq c1
      subst c1
      exact ⟨_, _, _, _, rfl, c2, c3, c4, c5, h1⟩
    · cases h
  · cases h
theorem s_appPop {x : Str} {px ap cp : Pos} {a b : Expr} {i j : Nat} {z : E} (ok : OkT g k cm sc X p) (hi : ix? x g.N 0 = some i) (hv : visB sc x = true) (hd : (x == ("__debug__" : Str)) = false) (hcd : (x == ("__classdict__" : Str)) = false) (hline : (ap.endLine == cp.line) = true)
    (ha : popOf g sc a = some (j, b)) (hz : cE g n cm sc b = some z) :
    PS X (.Expr (.Call (.Attribute (.Name x px) "append" ap) [a] [] cp) pos) (tS p (evS p.Φ fu (.appPop i j z))) := by
  obtain ⟨y, py, ap2, cp2, rfl, hline2, hv2, hd2, hcd2, hj⟩ := popOf_some ha
  have hi2 : X.N[i]? = some x := by rw [ok.hN]; exact ix?_zero hi
  have hj2 : X.N[j]? = some y := by rw [ok.hN]; exact ix?_zero hj
  refine PS.imp (ps_expr (pe_bm PySem.F.plainAttrs_list PySem.F.slot_list_append PySem.F.type_list_append mt_append (pe_var hi2 (by rw [ok.sc]; exact vis_of hv) hd hcd)
    (pa_cons (pe_bm PySem.F.plainAttrs_list PySem.F.slot_list_pop PySem.F.type_list_pop mt_popAt (pe_var hj2 (by rw [ok.sc]; exact vis_of hv2) hd2 hcd2) (pa_cons ((snd n).e _ _ _ _ _ _ ok.toOkX hz) pa_nil (star_of hz [] X.env)) rfl (by rw [star_of hz [] X.env]; rfl) hline2 (star_of hz [] X.env) rfl) pa_nil rfl) rfl rfl hline rfl rfl) rfl) fun D σ H ⟨H0, A, env, ⟨ow, hh⟩, q⟩ => ?_
  simp only [evS] at q
  split at q
  · rename_i m l e1 e2
    obtain ⟨xs, c1, c2, c3, c4⟩ := hh.cell e1
    obtain ⟨ys, d1, d2, d3, d4⟩ := hh.cell e2
    refine ⟨_, c1, .inl ⟨rfl, xs, .inl (.inl c2)⟩, _, d1, .inl ⟨rfl, ys, .inl (.inl d2)⟩, _, env, hh.pre _, (onR_use hh q).mono fun d0 H1 s1 ⟨h1, q⟩ v hv => ?_⟩
    cases hv with
    | int kk =>
      simp only at q
      cases e3 : popAt l kk with
      | none => rw [e3] at q; exact q.elim
      | some dl =>
        obtain ⟨d, l'⟩ := dl
        rw [e3] at q
        simp only at q
        split at q
        · rename_i hc
          obtain ⟨xs', c1', c2', c3', c4'⟩ := h1.cell e1
          obtain ⟨ys', d1', d2', d3', d4'⟩ := h1.cell e2
          unfold popAt at e3
          split at e3
          · rename_i ix hix
            split at e3
            · rename_i hb
              simp only [Option.map_eq_some_iff, Prod.mk.injEq] at e3
              obtain ⟨d', e4, rfl, rfl⟩ := e3
              obtain ⟨w, e5, hw⟩ := d4'.get e4
              have h2 := h1.mut (xs := ys'.eraseIdx ix) (ds := l.eraseIdx ix) e2 (Nat.le_trans (List.length_eraseIdx_le _ _) d3') (d4'.erase ix)
              have hne : ow i ≠ ow j := fun e => hc.1 (h1.inj i j _ _ e1 e2 e)
              have e6 : geti (sets env j (.o (.list (l.eraseIdx ix)))) i = .o (.list m) := by
                rw [geti_sets]
                rw [if_neg (fun z => hc.1 z.1.symm)]
                exact e1
              obtain ⟨xs2, f1, f2, f3, f4⟩ := h2.cell e6
              have hl := f4.length
              have hcap : cap < sizeLine := by rw [sizeLine_eq]; decide
              have sub : ∀ a, Av A (sets env j (.o (.list (l.eraseIdx ix)))) ow a → Av A env ow a := fun a z => by
                rcases z with z | ⟨jj, dd, z, zz⟩
                · exact .inl z
                · rw [geti_sets] at z
                  split at z
                  · rename_i c
                    exact .inr ⟨j, _, e2, by rw [c.1]; exact zz⟩
                  · exact .inr ⟨jj, _, z, zz⟩
              refine ⟨ow j, ys', kk, ix, w, rfl, rfl, d2', by have := Nat.le_of_ble_eq_true hb; omega, by have := Nat.le_of_ble_eq_true hb; omega, by rw [d4'.length]; exact hix, e5, ow i, xs2, w, rfl, rfl, f2, by omega, q _ _ ⟨ow, h2.mut e6 (by rw [List.length_append]; simp; omega) (f4.append (.cons (Rp.keep (h1.keepMut e2) (fun a z => .inl (sub a z)) _ _ hw) .nil))⟩⟩
            · cases e3
          · cases e3
        · exact q.elim
    | _ => exact q.elim
  · exact q.elim
/-- a name that holds an owned dict -/
theorem SRo.cellK {H0 H : Hp} {A : Addr → Prop} {env : Env} {σ : L2.St} {ow : Nat → Addr} {i : Nat} {l : List (D × D)} (h : SRo p H0 A env σ H ow) (e : geti env i = .o (.dict l)) (no : noTK l = true) :
    ∃ ks, σ[i]? = some (some (.ref (ow i))) ∧ H (ow i) = some (.dK ks) ∧ ks.length ≤ sizeLine ∧ RpK (Av A env ow) H ks l := by
  obtain ⟨e1, _, o, e2, r⟩ := h.own i _ e
  cases r with
  | dct z r => exact ⟨_, e1, e2, z, r⟩
  | dtt z r => rw [r.notNo z] at no; cases no
theorem RpA.setV {A : Addr → Prop} {H : Hp} {v : V} {d : D} (q : Rp A H v d) : ∀ {ds : List D} {vs : List V} (j : Nat), RpA A H vs ds → RpA A H (vs.set j v) (ds.set j d)
  | _, _, _, .nil => .nil
  | _, _, 0, .cons h r => .cons q r
  | _, _, j + 1, .cons h r => .cons h (RpA.setV q j r)
theorem swap_sub {e a b : Expr} {p1 : Pos} {l : Nat} {env : PySem.Env} : swapsWith e (some (.Subscript a b p1)) l env = pure false := by
  cases e <;> rfl
/-- x[i] = e, of a list or a dict -/
theorem s_setIx {x : Str} {px p1 : Pos} {b e : Expr} {i : Nat} {y z : E} (ok : OkT g k cm sc X p) (hi : ix? x g.N 0 = some i) (hv : visB sc x = true) (hd : (x == ("__debug__" : Str)) = false) (hcd : (x == ("__classdict__" : Str)) = false) (hsl : isSl b = false)
    (hy : cE g n cm sc b = some y) (hz : cE g n cm sc e = some z) (hw : ∀ a b : Expr, ∀ p1 : Pos, swappedStores [.Subscript a b p1] e X.env = pure none) :
    PS X (.Assign [.Subscript (.Name x px) b p1] e pos) (tS p (evS p.Φ fu (.setIx i y z))) := by
  have hi2 : X.N[i]? = some x := by rw [ok.hN]; exact ix?_zero hi
  have hpe := pe_var (X := X) (pos := px) hi2 (by rw [ok.sc]; exact vis_of hv) hd hcd
  refine ⟨fun pins s σ H D I ⟨H0, A, env, ⟨ow, hh⟩, q⟩ => ?_⟩
  simp only [evS] at q
  split at q
  · rename_i l hg
    refine (ps_asg (X := X) (tg := .Subscript (.Name x px) b p1) (e := e) ((snd n).e _ _ _ _ _ _ ok.toOkX hz) (pg_sub hpe ((snd n).e _ _ _ _ _ _ ok.toOkX hy) set_list (ha := fun v => by cases b <;> first | rfl | (simp [isSl] at hsl))) (show swapsWith e (some (.Subscript (.Name x px) b p1)) pos.line X.env = pure false from swap_sub) (hw _ _ _) rfl).run pins s σ H D I ?_
    refine ⟨_, env, hh.pre _, (onR_use hh q).mono fun d H1 s1 ⟨h1, q⟩ v hv => ?_⟩
    obtain ⟨xs, c1, c2, c3, c4⟩ := h1.cell hg
    refine ⟨_, c1, _, env, h1.pre _, (onR_use h1 q).mono fun a H2 s2 ⟨h2, q⟩ w hw2 => ?_⟩
    obtain ⟨h3, r3⟩ := h2.shr z.vars (Rp.same s2 _ _ hv)
    cases hg2 : geti (PC.shr z.vars d env) i with
    | o d2 =>
      have e3 := geti_shr hg2
      rw [hg] at e3
      cases e3
      rw [hg2] at q
      cases hw2 with
      | int kk =>
        have q : Endo p H0 A D (match L2.ixN l.length kk with
          | some j => .nx (sets (PC.shr z.vars d env) i (.o (.list (l.set j d))))
          | none => .st) := q
        cases hj : L2.ixN l.length kk with
        | none => rw [hj] at q; exact q.elim
        | some j =>
          rw [hj] at q
          obtain ⟨xs', c1', c2', c3', c4'⟩ := h3.cell hg2
          exact ⟨ow i, xs', kk, j, rfl, rfl, c2', by rw [c4'.length]; exact hj, q _ _ ⟨ow, h3.mut hg2 (by rw [List.length_set]; exact c3') (RpA.setV r3 j c4')⟩⟩
      | _ => exact q.elim
    | _ =>
      rw [hg2] at q
      cases hw2 <;> exact q.elim
  · rename_i kvs hk
    by_cases hno : noTK kvs = true
    case neg => rw [if_neg hno] at q; exact q.elim
    rw [if_pos hno] at q
    obtain ⟨ks, c1, c2, c3, c4⟩ := hh.cellK hk hno
    refine (ps_dput (X := X) (o := .Name x px) (i := b) (value := e) (by have := ok.un; omega) hpe ((snd n).e _ _ _ _ _ _ ok.toOkX hy) ((snd n).e _ _ _ _ _ _ ok.toOkX hz) swap_sub).run pins s σ H D I ?_
    refine ⟨_, env, hh.pre _, (onR_use hh q).mono fun d H1 s1 ⟨h1, q⟩ v hv => ?_⟩
    refine ⟨_, c1, _, env, h1.pre _, (onR_use h1 q).mono fun a H2 s2 ⟨h2, q⟩ w hw2 => ?_⟩
    obtain ⟨h3, r3⟩ := h2.shr z.vars (Rp.same s2 _ _ hv)
    cases hg2 : geti (PC.shr z.vars d env) i with
    | o d2 =>
      have e3 := geti_shr hg2
      rw [hk] at e3
      cases e3
      rw [hg2] at q
      have q : Endo p H0 A D (if isKey a && decide (kvs.length < cap) then .nx (sets (PC.shr z.vars d env) i (.o (.dict (putD a d kvs)))) else .st) := q
      split at q
      · rename_i c
        simp only [Bool.and_eq_true, decide_eq_true_eq] at c
        obtain ⟨kk, rfl, rfl⟩ := isKey_of hw2 c.1
        obtain ⟨ks', c1', c2', c3', c4'⟩ := h3.cellK hg2 hno
        have hl := c4'.length
        have hcap : cap < sizeLine := by rw [sizeLine_eq]; decide
        refine ⟨ow i, _, rfl, DPut.k c2' (by omega), q _ _ ⟨ow, h3.mutG hg2 (.dct ?_ (RpK.put r3 c4'))⟩⟩
        have := L2.length_putK ks' kk v
        omega
      · exact q.elim
    | _ => rw [hg2] at q; exact q.elim
  · exact q.elim
theorem s_raise {c m : Str} {j : Nat} {pc pm cp : Pos} (ok : OkT g k true sc X p) (hg : glB sc c = true) (hc : c ∈ g.ecs) (hd : (c == ("__debug__" : Str)) = false) : PS X (.Raise (some (.Call (.Name c pc) [.Constant (.str m) j pm] [] cp)) none pos) (tS p (evS p.Φ fu (.raise c))) := by
  have C := ok.lk.cl c hc
  refine PS.imp (L2.ps_raise ok.cal ok.tk (pmk_own PySem.F.excBase_ValueError C.mke C.gl C.kp (raises_own C.sb C.ty) (gl_of ok.sc hg) hd)) fun D σ H ⟨H0, A, env, h, q⟩ => ?_
  simp only [evS] at q
  exact q σ H h
end
end PC
set_option Elab.async false
set_option linter.all false
namespace PC
open PySem PySem.Spec PyProof.Rows L2
section
variable {p p' : Pm} {H0 H H' : Hp} {A : Addr → Prop} {env : Env} {σ : L2.St} {ow : Nat → Addr} {i : Nat}
theorem SRo.setQ {x : Sl} {w : Option V} (h : SRo p H0 A env σ H ow) (hnl : p'.nl = p.nl) (ho : ∀ d, x ≠ .o d) (hf : ∀ d, x ≠ .f d) (hx : XS p'.sx (sets env i x) (σ.set i w)) (hpn : p'.pin = p.pin) (hm : ∀ a, p.pin ≠ some (i, a)) : SRo p' H0 A (sets env i x) (σ.set i w) H ow := by
  have so : ∀ {j s}, geti (sets env i x) j = s → s ≠ x → (j ≠ i ∨ ¬ i < env.length) ∧ geti env j = s := fun {j s} q n => by
    rw [geti_sets] at q
    by_cases c : i = j ∧ i < env.length
    · rw [if_pos c] at q
      exact absurd q.symm n
    · rw [if_neg c] at q
      refine ⟨?_, q⟩
      by_cases c1 : i = j
      · exact .inr fun z => c ⟨c1, z⟩
      · exact .inl fun z => c1 z.symm
  have sub : ∀ a, Av A (sets env i x) ow a → Av A env ow a := fun a q => by
    rcases q with q | ⟨j, e, q, z⟩
    · exact .inl q
    · exact .inr ⟨j, e, (so q (ho e).symm).2, z⟩
  have sg : ∀ {j : Nat} {v : Option (Option V)}, (j ≠ i ∨ ¬ i < env.length) → σ[j]? = v → (σ.set i w)[j]? = v := fun {j v} c q => by
    rcases c with c | c
    · rw [List.getElem?_set_ne (Ne.symm c)]; exact q
    · rw [h.elen, ← h.len] at c
      rw [List.set_eq_of_length_le (by omega)]; exact q
  refine ⟨h.same, h.dom, by rw [List.length_set, hnl]; exact h.len, by rw [sets_length, hnl]; exact h.elen, fun j e q => ?_, fun j k e e' q q' z => h.inj j k e e' (so q (ho e).symm).2 (so q' (ho e').symm).2 z, fun j e q => ?_, hx, by rw [hpn]; exact h.invS hm _⟩
  · obtain ⟨n, q⟩ := so q (ho e).symm
    obtain ⟨e1, e0, o, e2, r⟩ := h.own j e q
    exact ⟨sg n e1, e0, o, e2, r.less sub⟩
  · obtain ⟨n, q⟩ := so q (hf e).symm
    obtain ⟨v, e1, r⟩ := h.frz j e q
    exact ⟨v, sg n e1, Rp.less sub _ _ r⟩
theorem SRo.conv (h : SRo p H0 A env σ H ow) (hnl : p'.nl = p.nl) (hsx : p'.sx = p.sx) (hpn : p'.pin = p.pin) : SRo p' H0 A env σ H ow := ⟨h.same, h.dom, by rw [hnl]; exact h.len, by rw [hnl]; exact h.elen, h.own, h.inj, h.frz, by rw [hsx]; exact h.xs, by rw [hpn]; exact h.inv⟩
theorem SR.conv (h : SR p H0 A env σ H) (hnl : p'.nl = p.nl) (hsx : p'.sx = p.sx) (hpn : p'.pin = p.pin) : SR p' H0 A env σ H := h.imp fun _ h => h.conv hnl hsx hpn
theorem SRo.setX {c : Str} {a : Addr} (h : SRo p H0 A env σ H ow) (hn : p.sx = none) (hi : p.may i) (hnl : p'.nl = p.nl) (hsx : p'.sx = some (i, c, a)) (hpn : p'.pin = p.pin) : SRo p' H0 A (sets env i (.x c)) (σ.set i (some (.ref a))) H ow := by
  refine h.setQ hnl (fun d q => by cases q) (fun d q => by cases q) (fun j c' e => ?_) hpn hi.2
  rw [geti_sets] at e
  by_cases c1 : i = j
  · subst c1
    have c2 : i < env.length := by rw [h.elen]; exact hi.1
    simp only [c2, and_self, if_true] at e
    cases e
    exact ⟨a, hsx, List.getElem?_set_self (by rw [h.len]; exact hi.1)⟩
  · simp only [c1, false_and, if_false] at e
    obtain ⟨_, e2, _⟩ := h.xs j c' e
    rw [hn] at e2; cases e2
theorem SRo.setU {c : Str} {a : Addr} (h : SRo p' H0 A env σ H ow) (hsx : p'.sx = some (i, c, a)) (hnl : p.nl = p'.nl) (hpn : p.pin = p'.pin) (hm : ∀ a, p'.pin ≠ some (i, a)) : SRo p H0 A (sets env i .u) (σ.set i none) H ow := by
  refine h.setQ hnl (fun d q => by cases q) (fun d q => by cases q) (fun j c' e => ?_) hpn hm
  exfalso
  rw [geti_sets] at e
  split at e
  · cases e
  · rename_i c1
    obtain ⟨a', e2, e3⟩ := h.xs j c' e
    rw [hsx] at e2
    cases e2
    refine c1 ⟨rfl, ?_⟩
    rw [h.elen, ← h.len]
    exact (List.getElem?_eq_some_iff.mp e3).1
end
section
variable {g : G} {k n fu : Nat} {cm : Bool} {sc : Scope} {X : Cx} {p : Pm} {pos : Pos}
theorem OkT.tr (ok : OkT g k true sc X p) {W : WX} {pn : List (Addr × Obj)} {xe : Value → Shared → Prop} (tk : Takes (X.tr pn xe) W) (po : PassesOwn (model X.prog X.w) X.A X.env xe) : OkT g k true sc (X.tr pn xe) { p with W := W } where
  hN := ok.hN
  nl := ok.nl
  nd := ok.nd
  sc := ok.sc
  cal := ok.cal
  room := ok.room
  un := ok.un
  pn := ok.pn
  lk := ok.lk
  tk := tk
  nosx := ok.nosx
  sx := fun i c a e => by
    have e2 := ok.nosx rfl
    have e : p.sx = some (i, c, a) := e
    rw [e2] at e; cases e
  hs := ok.hs
  hf := ok.hf
  st := ok.st
  po := po
theorem OkT.suite0 (ok : OkT g k true sc X p) {a : Addr} {pn : List (Addr × Obj)} : OkT g k false sc (X.suite a pn) { p with W := fun _ _ _ _ => False, sx := none } where
  hN := ok.hN
  nl := ok.nl
  nd := ok.nd
  sc := ok.sc
  cal := rfl
  room := fun e => by cases e
  un := ok.un
  pn := ok.pn
  lk := ok.lk
  tk := takes0
  nosx := fun e => by cases e
  sx := fun i c a e => by cases e
  hs := ok.hs
  hf := ok.hf
  st := ok.st
  po := PassesOwn.never
theorem OkT.suite (ok : OkT g k true sc X p) {a : Addr} {oe : Obj} {pn : List (Addr × Obj)} {i : Nat} {c : Str} (hc : c ∈ g.ecs) (hz : Zc (.ref (p.ec c)) none oe) (hd : ∃ vs, oe.data = .fields vs) :
    OkT g k false sc (X.suite a ((a, oe) :: pn)) { p with W := fun _ _ _ _ => False, sx := some (i, c, a) } where
  hN := ok.hN
  nl := ok.nl
  nd := ok.nd
  sc := ok.sc
  cal := rfl
  room := fun e => by cases e
  un := ok.un
  pn := ok.pn
  lk := ok.lk
  tk := takes0
  nosx := fun e => by cases e
  sx := fun i' c' a' e => by
    cases e
    exact ⟨hc, X, oe, pn, rfl, hz, hd⟩
  hs := ok.hs
  hf := ok.hf
  st := ok.st
  po := PassesOwn.never
theorem s_try0 {c : Str} {np pos' : Pos} {b : List Stmt} {s0 : Stmt} {su : List Stmt} {y z : List S} (ok : OkT g k true sc X p) (hg : glB sc c = true) (hc : c ∈ g.ecs) (hd : (c == ("__debug__" : Str)) = false)
    (hb : ∀ X' p', OkT g k true sc X' p' → p'.Φ = p.Φ → PSs X' b (tS p' (evSs p'.Φ fu y))) (hsu : ∀ X' p', OkT g k false sc X' p' → p'.Φ = p.Φ → PSs X' (s0 :: su) (tS p' (evSs p'.Φ fu z))) :
    PS X (.Try b [.ExceptHandler (some (.Name c np)) none (s0 :: su) pos'] [] [] pos) (tS p (evS p.Φ fu (.try_ y g.ecs c none z))) := by
  refine PS.imp (ps_try_only (c := .ref (p.ec c)) (Wout := p.W) (tb := fun W => tS { p with W := W } (evSs p.Φ fu y)) (ts := fun _ _ _ => tS { p with W := fun _ _ _ _ => False, sx := none } (evSs p.Φ fu z)) ok.hs ok.hf ⟨gl_of ok.sc hg, hd, .inl (ok.lk.cl c hc).gl⟩ ok.tk
    (fun W pn xe tk po => hb _ _ (ok.tr tk po) rfl) (fun a oe cls d pn hz hdd => hsu _ _ (ok.suite0) rfl)) fun D σ H ⟨H0, A, env, h, q⟩ => ?_
  simp only [evS] at q
  refine ⟨H0, A, env, h.conv rfl rfl rfl, ?_⟩
  have nosx := ok.nosx rfl
  cases e : evSs p.Φ fu y env with
  | nx env1 => rw [e] at q; exact fun σ' H' h' => q σ' H' (h'.conv rfl rfl rfl)
  | bk env1 => rw [e] at q; exact fun σ' H' h' => q σ' H' (h'.conv rfl rfl rfl)
  | rt d => rw [e] at q; exact q
  | st => rw [e] at q; exact q
  | ex kk env1 =>
    rw [e] at q
    intro σ' H' h'
    have h' : SR p H0 A env1 σ' H' := h'.conv rfl rfl rfl
    simp only at q
    split at q
    · rename_i hkk
      have hkk : kk ∈ g.ecs := by simpa using hkk
      refine ⟨subC kk c, ok.lk.ex kk c hkk hc, fun e2 a na => ?_, fun e2 => ?_⟩
      · rw [if_pos e2] at q
        refine ⟨H0, A, env1, h'.conv rfl nosx.symm rfl, ?_⟩
        · have cv : ∀ {env2 σ2 H2}, SR { p with W := fun _ _ _ _ => False, sx := none } H0 A env2 σ2 H2 → SR p H0 A env2 σ2 H2 := fun h => h.conv rfl nosx rfl
          cases e3 : evSs p.Φ fu z env1 with
          | nx env2 => rw [e3] at q; exact fun σ2 H2 h2 => q σ2 H2 (cv h2)
          | bk env2 => rw [e3] at q; exact fun σ2 H2 h2 => q σ2 H2 (cv h2)
          | rt d => rw [e3] at q; exact q
          | st => rw [e3] at q; exact q.elim
          | ex k2 env2 => rw [e3] at q; exact q.elim
      · rw [if_neg (by rw [e2]; decide)] at q
        exact q σ' H' h'
    · exact q.elim
theorem s_try1 {c v : Str} {i : Nat} {np pos' : Pos} {b : List Stmt} {s0 : Stmt} {su : List Stmt} {y z : List S} (ok : OkT g k true sc X p) (hpin : pinB g (.n i) = false) (hg : glB sc c = true) (hc : c ∈ g.ecs) (hd : (c == ("__debug__" : Str)) = false) (hi : ix? v g.N 0 = some i) (hv : sc.names.lookup v = some .local)
    (hb : ∀ X' p', OkT g k true sc X' p' → p'.Φ = p.Φ → PSs X' b (tS p' (evSs p'.Φ fu y))) (hsu : ∀ X' p', OkT g k false sc X' p' → p'.Φ = p.Φ → PSs X' (s0 :: su) (tS p' (evSs p'.Φ fu z))) :
    PS X (.Try b [.ExceptHandler (some (.Name c np)) (some v) (s0 :: su) pos'] [] [] pos) (tS p (evS p.Φ fu (.try_ y g.ecs c (some i) z))) := by
  have hN : X.N.Nodup := by rw [ok.hN]; exact ok.nd
  have hi2 : X.N[i]? = some v := by rw [ok.hN]; exact ix?_zero hi
  have hil : p.may i := ok.may hpin (by simp [T.ids]) (ix?_lt hi)
  refine PS.imp (L2.ps_try_as (c := .ref (p.ec c)) (Wout := p.W) (tb := fun W => tS { p with W := W } (evSs p.Φ fu y))
    (ts := fun a cls d => fun D σ H => ∃ kk, kk ∈ g.ecs ∧ cls = .ref (p.ec kk) ∧ d = none ∧ tS { p with W := fun _ _ _ _ => False, sx := some (i, kk, a) } (evSs p.Φ fu z) D σ H) ok.hs ok.hf hN hi2 (by show X.env.scope.names.lookup v = _; rw [ok.sc]; exact hv) ⟨gl_of ok.sc hg, hd, .inl (ok.lk.cl c hc).gl⟩ ok.tk
    (fun W pn xe tk po => hb _ _ (ok.tr tk po) rfl) (fun a oe cls d pn hz hdd => ⟨fun pins s σ H D I ⟨kk, hk, e1, e2, q⟩ => by
      subst e1 e2
      exact (hsu _ _ (ok.suite hk hz hdd) rfl).run pins s σ H D I q⟩)) fun D σ H ⟨H0, A, env, h, q⟩ => ?_
  simp only [evS] at q
  refine ⟨H0, A, env, h.conv rfl rfl rfl, ?_⟩
  have nosx := ok.nosx rfl
  cases e : evSs p.Φ fu y env with
  | nx env1 => rw [e] at q; exact fun σ' H' h' => q σ' H' (h'.conv rfl rfl rfl)
  | bk env1 => rw [e] at q; exact fun σ' H' h' => q σ' H' (h'.conv rfl rfl rfl)
  | rt d => rw [e] at q; exact q
  | st => rw [e] at q; exact q
  | ex kk env1 =>
    rw [e] at q
    intro σ' H' h'
    have h' : SR p H0 A env1 σ' H' := h'.conv rfl rfl rfl
    simp only at q
    split at q
    · rename_i hkk
      have hkk : kk ∈ g.ecs := by simpa using hkk
      refine ⟨subC kk c, ok.lk.ex kk c hkk hc, fun e2 a na => ?_, fun e2 => ?_⟩
      · rw [if_pos e2] at q
        obtain ⟨ow, h'⟩ := h'
        refine ⟨kk, hkk, rfl, rfl, H0, A, sets env1 i (.x kk), ⟨ow, h'.setX nosx hil rfl rfl rfl⟩, ?_⟩
        have cv : ∀ {env2 σ2 H2}, SR { p with W := fun _ _ _ _ => False, sx := some (i, kk, a) } H0 A env2 σ2 H2 → SR p H0 A (sets env2 i .u) (σ2.set i none) H2 := fun ⟨ow, h⟩ => ⟨ow, h.setU rfl rfl rfl hil.2⟩
        show Endo _ H0 A _ (evSs p.Φ fu z (sets env1 i (.x kk)))
        cases e3 : evSs p.Φ fu z (sets env1 i (.x kk)) with
        | nx env2 => rw [e3] at q; exact fun σ2 H2 h2 => q _ H2 (cv h2)
        | bk env2 => rw [e3] at q; exact fun σ2 H2 h2 => q _ H2 (cv h2)
        | rt d => rw [e3] at q; exact q
        | st => rw [e3] at q; exact q.elim
        | ex k2 env2 => rw [e3] at q; exact q.elim
      · rw [if_neg (by rw [e2]; decide)] at q
        exact q σ' H' h'
    · exact q.elim
theorem prcOf_some {e a : Expr} {f : Str} {i : Nat} (h : prcOf g cm sc e = some (f, a, i)) : ∃ p0 x px cp, e = .Call (.Name f p0) [a, .Name x px] [] cp ∧ cm = true ∧ glB sc f = true ∧ f ∈ g.prs ∧ (f == ("__debug__" : Str)) = false ∧ visB sc x = true ∧ (x == ("__debug__" : Str)) = false ∧ (x == ("__classdict__" : Str)) = false ∧ ix? x g.N 0 = some i := by
  unfold prcOf at h
  split at h
  · split at h
    · rename_i c
      simp only [Bool.and_eq_true, Bool.not_eq_true'] at c
      obtain ⟨⟨⟨⟨⟨⟨c1, c2⟩, c3⟩, c4⟩, c5⟩, c6⟩, c7⟩ := c
      simp only [Option.map_eq_some_iff] at h
      obtain ⟨j, hj, e⟩ := h
      cases e
      exact ⟨_, _, _, _, rfl, c1, c2, by simpa using c3, c4, c5, c6, c7, hj⟩
    · cases h
  · cases h
theorem SRo.mutH {H0 H H' : Hp} {A : Addr → Prop} {env : Env} {σ : L2.St} {ow : Nat → Addr} {i : Nat} {d0 : D} {xs : List V} {ds : List D} (h : SRo p H0 A env σ H ow) (g : geti env i = .o d0) (k : ∀ b o, b ≠ ow i → H b = some o → H' b = some o) (e : H' (ow i) = some (.lst xs)) (z : xs.length ≤ sizeLine) (r : RpA (Av A env ow) H' xs ds) :
    SRo p H0 A (sets env i (.o (.list ds))) σ H' ow := by
  obtain ⟨_, _, o, e2, _⟩ := h.own i _ g
  have s2 : Same H (upd H' (ow i) o) := fun b u q => by
    by_cases c : b = ow i
    · subst c
      rw [upd_same, ← q, e2]
    · rw [upd_ne c]
      exact k b u c q
  have ra : RpA (Av A env ow) (upd H' (ow i) o) xs ds := RpA.keep (A := Av A env ow) (fun b u q n => by
    rw [upd_ne (fun c => n (by rw [c]; exact .inr ⟨i, _, g, rfl⟩))]
    exact q) (fun a q => .inl q) _ _ r
  have := (h.sameH s2).mut g z ra
  have e3 : upd (upd H' (ow i) o) (ow i) (.lst xs) = H' := by
    funext b
    by_cases c : b = ow i
    · subst c
      rw [upd_same, e]
    · rw [upd_ne c, upd_ne c]
  rw [e3] at this
  exact this
theorem s_prc {f x : Str} {p0 px cp : Pos} {a : Expr} {y : E} {i : Nat} (ok : OkT g k true sc X p) (hg : glB sc f = true) (hf : f ∈ g.prs) (hd : (f == ("__debug__" : Str)) = false) (hv : visB sc x = true) (hd1 : (x == ("__debug__" : Str)) = false) (hd2 : (x == ("__classdict__" : Str)) = false)
    (hi : ix? x g.N 0 = some i) (hy : cE g n true sc a = some y) : PS X (.Expr (.Call (.Name f p0) [a, .Name x px] [] cp) pos) (tS p (evS p.Φ fu (.prc f y i))) := by
  obtain ⟨fa, fd, ps, h1, h2, h3, h4, F⟩ := ok.lk.pr f hf
  have hi2 : X.N[i]? = some x := by rw [ok.hN]; exact ix?_zero hi
  have hcall := pe_callS (p := p0) (pos := cp) F (ok.room rfl) (gl_of ok.sc hg) h1 h2 h3 (fun σ => passAt ok.tk σ) (pa_cons ((snd n).e _ _ _ _ _ _ ok.toOkX hy) (pa_cons (pe_var (pos := px) hi2 (by rw [ok.sc]; exact vis_of hv) hd1 hd2) pa_nil rfl) (star_of hy [.Name x px] X.env)) hd (star_of hy [.Name x px] X.env) rfl
  refine PS.imp (ps_expr hcall rfl) fun D σ H ⟨H0, A, env, ⟨ow, hh⟩, q⟩ => ?_
  simp only [evS] at q
  split at q
  · rename_i l e1
    refine ⟨_, env, hh.pre _, (onR_use hh q).mono fun d H1 s ⟨h1, q⟩ v hv => ?_⟩
    obtain ⟨xs0, c0, _⟩ := h1.cell e1
    refine ⟨_, c0, ?_⟩
    have h2 := h1.frzA y.vars
    split at q
    · rename_i d2 m e2 e3
      have e4 := (frz_o e2).1
      rw [e1] at e4
      cases e4
      obtain ⟨xs, c1, c2, c3, c4⟩ := h2.cell e2
      refine ⟨rfl, v, ow i, rfl, Av A (frzS y.vars 0 env) ow, d, l, xs, h2.trA, .inr ⟨i, _, e2, rfl⟩, Rp.less (fun a q => av_frz q) _ _ hv, c2, c3, c4, ?_⟩
      rw [e3]
      intro H' xs' k2 hr z ra
      exact q σ H' ⟨ow, h2.mutH e2 k2 hr z ra⟩
    · exact q.elim
  · exact q.elim
end
end PC
set_option Elab.async false
set_option linter.all false
namespace PC
open PySem PySem.Spec PyProof.Rows L2
structure SndS (g : G) (k fu n : Nat) : Prop where
  s : ∀ cm sc st ir X p, OkT g k cm sc X p → cS g n cm sc st = some ir → PS X st (tS p (evS p.Φ fu ir))
  ss : ∀ cm sc sts ir X p, OkT g k cm sc X p → cSs g n cm sc sts = some ir → PSs X sts (tS p (evSs p.Φ fu ir))
theorem sndS_ss {g : G} {k fu n : Nat} (IH : SndS g k fu n) : ∀ cm sc sts ir X p, OkT g k cm sc X p → cSs g (n + 1) cm sc sts = some ir → PSs X sts (tS p (evSs p.Φ fu ir)) := by
  intro cm sc sts ir X p ok h
  cases sts with
  | nil => simp only [cSs, Option.some.injEq] at h; subst h; exact s_nil
  | cons s r =>
    simp only [cSs, Option.bind_eq_some_iff, Option.map_eq_some_iff] at h
    obtain ⟨x, hx, y, hy, rfl⟩ := h
    exact s_cons (IH.s _ _ _ _ _ _ ok hx) (IH.ss _ _ _ _ _ _ ok hy)
theorem sndS_s {g : G} {k fu n : Nat} (IH : SndS g k fu n) : ∀ cm sc st ir X p, OkT g k cm sc X p → cS g (n + 1) cm sc st = some ir → PS X st (tS p (evS p.Φ fu ir)) := by
  intro cm sc st ir X p ok h
  unfold cS at h
  split at h
  · rename_i x px b p1 e pos
    split at h
    · cases h
    rename_i c
    simp only [Bool.or_eq_true, not_or, Bool.not_eq_true', Bool.not_eq_true, Bool.not_eq_false] at c
    obtain ⟨⟨⟨c1, c2⟩, c3⟩, c4⟩ := c
    split at h
    · rename_i i hi
      split at h
      · cases h
      · cases h
      · rename_i hne hne2
        simp only [Option.bind_eq_some_iff, Option.map_eq_some_iff] at h
        obtain ⟨y, hy, z, hz, rfl⟩ := h
        refine s_setIx ok hi c3 c1 c2 c4 hy hz fun a b p1 => ?_
        unfold swappedStores
        cases e <;> rfl
    · cases h
  · rename_i t e pos _
    simp only [Option.bind_eq_some_iff] at h
    obtain ⟨tt, ht, h⟩ := h
    split at h
    · cases h
    rename_i hpin
    simp only [Bool.not_eq_true] at hpin
    simp only [Option.bind_eq_some_iff] at h
    obtain ⟨x, hx, h⟩ := h
    split at h
    · rename_i i
      split at h
      · cases h
      rename_i c
      cases h
      simp only [Bool.or_eq_true, Bool.and_eq_true, Bool.not_eq_true', not_or, not_and, Bool.not_eq_true, Bool.not_eq_false] at c
      unfold cT at ht
      split at ht
      · split at ht
        · split at ht
          · rename_i hi hl
            cases ht
            exact s_asg1 ok hpin hi hl hx c.1 c.2
          · cases ht
        · cases ht
      · simp only [Option.map_eq_some_iff] at ht
        obtain ⟨_, _, q⟩ := ht
        cases q
      · cases ht
    · rename_i is
      split at h
      · rename_i c
        subst c
        split at h
        · cases h
        · rename_i hne
          cases h
          exact s_asgT ok hpin ht (fun es j q e => hne es j q e) hx
      · cases h
  · rename_i x px o e pos
    split at h
    · rename_i i hi
      split at h
      · rename_i hl
        simp only [Bool.and_eq_true, Bool.not_eq_true'] at hl
        simp only [Option.bind_eq_some_iff, Option.map_eq_some_iff] at h
        obtain ⟨o', ho, y, hy, rfl⟩ := h
        exact s_aug ok hl.2 hi hl.1 ho hy
      · cases h
    · cases h
  · rename_i x px m ap args cp pos
    split at h
    · cases h
    rename_i c
    simp only [Bool.or_eq_true, not_or, Bool.not_eq_true', Bool.not_eq_true, Bool.not_eq_false] at c
    obtain ⟨⟨c1, c2⟩, c3⟩ := c
    split at h
    · rename_i i hi
      split at h
      · cases h
      rename_i hv
      simp only [Bool.not_eq_true', Bool.not_eq_false] at hv
      split at h
      · rename_i a
        split at h
        · rename_i hm
          have hm := eq_of_beq hm
          subst hm
          split at h
          · rename_i j b hp
            simp only [Option.map_eq_some_iff] at h
            obtain ⟨z, hz, rfl⟩ := h
            exact s_appPop ok hi hv c2 c3 c1 hp hz
          · simp only [Option.map_eq_some_iff] at h
            obtain ⟨z, hz, rfl⟩ := h
            exact s_app ok hi hv c2 c3 c1 hz
        · split at h
          · rename_i hm
            have hm := eq_of_beq hm
            subst hm
            simp only [Option.map_eq_some_iff] at h
            obtain ⟨z, hz, rfl⟩ := h
            exact s_ext ok hi hv c2 c3 c1 hz
          · split at h
            · rename_i hm
              have hm := eq_of_beq hm
              subst hm
              simp only [Option.map_eq_some_iff] at h
              obtain ⟨z, hz, rfl⟩ := h
              exact s_rem ok hi hv c2 c3 c1 hz
            · cases h
      · split at h
        · rename_i hm
          have hm := eq_of_beq hm
          subst hm
          cases h
          exact s_rvs ok hi hv c2 c3 c1
        · split at h
          · rename_i hm
            have hm := eq_of_beq hm
            subst hm
            cases h
            exact s_srt ok hi hv c2 c3 c1
          · cases h
      · split at h
        · rename_i hm
          have hm := eq_of_beq hm
          subst hm
          simp only [Option.bind_eq_some_iff, Option.map_eq_some_iff] at h
          obtain ⟨z, hz, y, hy, rfl⟩ := h
          exact s_ins ok hi hv c2 c3 c1 hz hy
        · cases h
      · cases h
    · cases h
  · rename_i e pos _
    split at h
    · rename_i f a i hp
      simp only [Option.map_eq_some_iff] at h
      obtain ⟨y, hy, rfl⟩ := h
      obtain ⟨p0, x, px, cp, rfl, rfl, g1, g2, g3, g4, g5, g6, g7⟩ := prcOf_some hp
      exact s_prc ok g1 g2 g3 g4 g5 g6 g7 hy
    split at h
    · cases h
    · cases h
    · rename_i hne hne2
      simp only [Option.map_eq_some_iff] at h
      obtain ⟨x, hx, rfl⟩ := h
      have hs : ∀ l, swapsWith e none l X.env = pure false := fun l => by
        cases n with
        | zero => simp [cE] at hx
        | succ n => cases e <;> first | rfl | exact absurd rfl (hne _ _ _ _) | exact absurd rfl (hne2 _ _ _ _ _) | (simp [cE] at hx; done)
      refine PS.imp (ps_expr ((snd n).e _ _ _ _ _ _ ok.toOkX hx) (hs _)) fun D σ H ⟨H0, A, env, ⟨ow, hh⟩, q⟩ => ?_
      simp only [evS] at q
      exact ⟨_, env, hh.pre _, (onR_use hh q).mono fun d H1 s ⟨h1, q⟩ v hv => q _ _ ⟨ow, h1⟩⟩
  · simp only [Option.bind_eq_some_iff, Option.map_eq_some_iff] at h
    obtain ⟨x, hx, y, hy, z, hz, rfl⟩ := h
    exact s_if ((snd n).t _ _ _ _ _ _ ok.toOkX hx) (IH.ss _ _ _ _ _ _ ok hy) (IH.ss _ _ _ _ _ _ ok hz)
  · rename_i t it b pos
    split at h
    · cases h
    rename_i c
    simp only [Bool.not_eq_true', Bool.not_eq_false] at c
    subst c
    simp only [Option.bind_eq_some_iff] at h
    obtain ⟨tt, ht, h⟩ := h
    split at h
    · cases h
    rename_i hpin
    simp only [Bool.not_eq_true] at hpin
    simp only [Option.bind_eq_some_iff, Option.map_eq_some_iff] at h
    obtain ⟨i, hi, y, hy, rfl⟩ := h
    exact s_for ok.po ok.cal ((snd n).i _ _ _ _ _ _ _ ok.toOkX hi) (cT_ok ok.hN ok.nd (.inl ok.cal) ok.st ht) (fun i hi => ok.may hpin hi (cT_lt ht i hi)) (fold_of hi X.env) (IH.ss _ _ _ _ _ _ ok hy)
  · simp only [Option.bind_eq_some_iff, Option.map_eq_some_iff] at h
    obtain ⟨x, hx, y, hy, rfl⟩ := h
    exact s_while ok.po ((snd n).t _ _ _ _ _ _ ok.toOkX hx) (IH.ss _ _ _ _ _ _ ok hy)
  · simp only [Option.map_eq_some_iff] at h
    obtain ⟨x, hx, rfl⟩ := h
    exact s_ret ((snd n).e _ _ _ _ _ _ ok.toOkX hx)
  · cases h; exact s_retN
  · split at h
    · rename_i c
      simp only [Bool.and_eq_true, Bool.not_eq_true'] at c
      obtain ⟨⟨⟨rfl, c2⟩, c3⟩, c4⟩ := c
      cases h
      exact s_raise ok c2 (by simpa using c3) c4
    · cases h
  · cases h; exact s_brk
  · cases h; exact s_pas
  · rename_i b c np nm s0 su pos' pos
    split at h
    · cases h
    rename_i cc
    simp only [Bool.or_eq_true, not_or, Bool.not_eq_true', Bool.not_eq_true, Bool.not_eq_false] at cc
    obtain ⟨⟨⟨rfl, c2⟩, c3⟩, c4⟩ := cc
    have c3 : c ∈ g.ecs := by simpa using c3
    simp only [Option.bind_eq_some_iff] at h
    obtain ⟨y, hy, z, hz, h⟩ := h
    have hb : ∀ X' p', OkT g k true sc X' p' → p'.Φ = p.Φ → PSs X' b (tS p' (evSs p'.Φ fu y)) := fun X' p' ok' _ => IH.ss _ _ _ _ _ _ ok' hy
    have hsu : ∀ X' p', OkT g k false sc X' p' → p'.Φ = p.Φ → PSs X' (s0 :: su) (tS p' (evSs p'.Φ fu z)) := fun X' p' ok' _ => IH.ss _ _ _ _ _ _ ok' hz
    split at h
    · cases h
      exact s_try0 ok c2 c3 c4 hb hsu
    · split at h
      · rename_i hi hv
        split at h
        · cases h
        rename_i hpin
        simp only [Bool.not_eq_true] at hpin
        cases h
        exact s_try1 ok hpin c2 c3 c4 hi hv hb hsu
      · cases h
  · cases h
theorem sndS {g : G} {k fu : Nat} : ∀ n, SndS g k fu n
  | 0 => ⟨fun _ _ _ _ _ _ _ h => by simp [cS] at h, fun _ _ _ _ _ _ _ h => by simp [cSs] at h⟩
  | n + 1 => ⟨sndS_s (sndS n), sndS_ss (sndS n)⟩
theorem evSs_one {Φ : Phi} {fu : Nat} {s : S} {env : Env} : evSs Φ fu [s] env = evS Φ fu s env := by
  simp only [evSs]
  cases evS Φ fu s env <;> rfl
/-- a procedure's body -/
theorem s_tl {g : G} {k fu : Nat} {X : Cx} {p : Pm} {sc : Scope} (ok : OkT g k true sc X p) : ∀ (n : Nat) {body : List Stmt} {ir : List S}, cTl g n sc body = some ir → PSs X body (fun D σ H => (∀ σ H, D.nx σ H → D.rt .non H) ∧ tS p (evSs p.Φ fu ir) D σ H)
  | 0, _, _, h => by simp [cTl] at h
  | n + 1, body, ir, h => by
    unfold cTl at h
    split at h
    · rename_i e
      cases e
    · rename_i e
      cases e
      simp only [Option.bind_eq_some_iff, Option.map_eq_some_iff] at h
      obtain ⟨x, hx, y, hy, rfl⟩ := h
      refine PSs.imp (pss_cons (ps_if ((snd n).t _ _ _ _ _ _ ok.toOkX hx) (pss_cons ps_retN pss_nil) pss_nil) (s_tl (fu := fu) ok n hy)) fun D σ H ⟨hD, H0, A, env, ⟨ow, h⟩, q⟩ => ?_
      rw [evSs_one] at q
      simp only [evS] at q
      refine ⟨_, env, h.pre _, (onR_use h q).mono fun k H1 s ⟨h1, q⟩ => ?_⟩
      cases k with
      | true => exact hD σ H1 (q σ H1 ⟨ow, h1⟩)
      | false => exact ⟨hD, H0, A, env, ⟨ow, h1⟩, q⟩
    · rename_i e _
      cases e
      exact PSs.imp ((sndS (fu := fu) n).ss _ _ _ _ _ _ ok h) fun D σ H ⟨_, q⟩ => q
end PC
set_option Elab.async false
set_option linter.all false
namespace PC
open PySem PySem.Spec PyProof.Rows L2
theorem geti_args : ∀ (ds : List D) (m i : Nat) (s : Sl), geti (ds.map Sl.f ++ List.replicate m .u) i = s → s = .u ∨ ∃ d, s = .f d ∧ ds[i]? = some d
  | [], 0, i, s, h => by subst h; simp [geti]
  | [], m + 1, 0, s, h => by subst h; simp [geti, List.replicate_succ]
  | [], m + 1, i + 1, s, h => by
    simp only [List.map_nil, List.nil_append, List.replicate_succ, geti] at h
    have := geti_args [] m i s (by simpa using h)
    rcases this with h | ⟨d, _, h⟩
    · exact .inl h
    · simp at h
  | d :: ds, m, 0, s, h => by
    simp only [List.map_cons, List.cons_append, geti] at h
    exact .inr ⟨d, h.symm, by simp⟩
  | d :: ds, m, i + 1, s, h => by
    simp only [List.map_cons, List.cons_append, geti] at h
    have := geti_args ds m i s h
    simpa using this
section
variable {g : G} {ec : Str → Addr} {P : Program} {w : World} {K : PySem.W.Frag} {mg : Str → Option Value} {base : Heap} {k fu : Nat} {Φ : Phi}
theorem okT_def {N : List Str} {qual : Str} {scope : Scope} {f : Addr} {cdv : Value} {A : Around} {outer : List PySem.Env} {s : Shared} {H : Hp} {E : XK} (hnd : N.Nodup) (lk : Lk { g with N := N } Φ ec P w K mg base k)
    (hr : Room k (A.deeper (envOfC qual scope s.heap.objs.size f cdv))) :
    OkT { g with N := N } k true scope (cxOf (L2.CX P w) P w K mg base N qual scope f cdv A outer s H E) ⟨Φ, ec, fun cls d _ H => E cls d H, none, N.length, none⟩ where
  hN := rfl
  nl := rfl
  pn := fun i a e => by cases e
  nd := hnd
  sc := rfl
  cal := rfl
  room := fun _ => hr
  un := by have := hr.un; show (A.deeper (envOfC qual scope s.heap.objs.size f cdv)).units + 150 < cLine; omega
  lk := lk
  tk := takes_of rfl rfl rfl rfl
  nosx := fun _ => rfl
  sx := fun i c a e => by cases e
  hs := rfl
  hf := rfl
  st := fun x h => ⟨loc_of h, .inl rfl⟩
  po := passes_of rfl
theorem sr_start {p : Pm} {H : Hp} {A : Addr → Prop} {N : List Str} {vs : List V} {ds : List D} (hnl : p.nl = N.length) (hsx : p.sx = none) (hpn : p.pin = none) (tr : Trk A H) (r : RpA A H vs ds) (hl : ds.length ≤ N.length) :
    SR p H A (ds.map .f ++ List.replicate (N.length - ds.length) .u) (L2.start N vs) H := by
  have hv := r.length
  refine ⟨fun _ => 0, Same.refl H, tr, ?_, ?_, fun i d e => ?_, fun i j d e h1 h2 q => ?_, fun i d e => ?_, fun i c e => ?_, fun i a e => by rw [hpn] at e; cases e⟩
  · unfold L2.start
    rw [hnl, List.length_append, List.length_map, List.length_replicate]
    omega
  · rw [hnl, List.length_append, List.length_map, List.length_replicate]
    omega
  · rcases geti_args ds _ i _ e with h | ⟨_, h, _⟩ <;> cases h
  · rcases geti_args ds _ i _ h1 with h | ⟨_, h, _⟩ <;> cases h
  · rcases geti_args ds _ i _ e with h | ⟨d', h, h2⟩
    · cases h
    · cases h
      obtain ⟨v, e1, e2⟩ := r.get h2
      refine ⟨v, ?_, Rp.less (fun a q => ?_) _ _ e2⟩
      · unfold L2.start
        rw [List.getElem?_append_left (by rw [List.length_map]; exact (List.getElem?_eq_some_iff.mp e1).1), List.getElem?_map, e1]
        rfl
      · rcases q with q | ⟨j, d', e3, _⟩
        · exact q
        · rcases geti_args ds _ j _ e3 with h | ⟨_, h, _⟩ <;> cases h
  · rcases geti_args ds _ i _ e with h | ⟨_, h, _⟩ <;> cases h
/-- a def keeps what its body's evaluation tells -/
theorem fn_ok {N ps : List Str} {x qual : Str} {params : Arguments} {body : List Stmt} {scope : Scope} {f : Addr} {fd : FuncData} {np n : Nat} {ir : List S} (F : FunD K x qual params body scope [] [] f fd) (Sc : FnScope N ps scope) (hnp : ps.length = np)
    (h : cSs { g with N := N } n true scope body = some ir) (lk : Lk { g with N := N } Φ ec P w K mg base k) : FnOk P w K mg base (L2.CX P w) (k + 1) f fd ps (spOf ec np (runFn Φ fu ⟨np, N.length, ir⟩)) := by
  refine F.ok Sc (fun vs H Q E h => by rw [hnp]; exact h.1) fun cdv A outer s H vs Q E hr hsp => ⟨_, (sndS (fu := fu) n).ss _ _ _ _ _ _ (okT_def Sc.nd lk hr) h, ?_⟩
  obtain ⟨hlen, A', ds, tr, r, q⟩ := hsp
  have hv := r.length
  have hpl : ps.length ≤ N.length := by have := congrArg List.length Sc.pre; rw [List.length_take] at this; omega
  refine ⟨H, A', ds.map .f ++ List.replicate (N.length - ds.length) .u, sr_start rfl rfl rfl tr r (by omega), ?_⟩
  have hd : ds.length = np := by omega
  unfold runFn at q
  rw [if_pos hd] at q
  simp only at q
  rw [← hd] at q
  show Endo _ H A' _ (evSs Φ fu ir _)
  cases e : evSs Φ fu ir (ds.map .f ++ List.replicate (N.length - ds.length) .u) with
  | nx env => rw [e] at q; exact fun σ' H' ⟨ow, h'⟩ => q _ _ h'.same .non
  | rt d => rw [e] at q; exact fun v H' s' r' => q v H' s' r'
  | ex c env => rw [e] at q; exact fun σ' H' ⟨ow, h'⟩ => q _ h'.same
  | bk env => rw [e] at q; exact q.elim
  | st => rw [e] at q; exact q.elim
theorem okT_pin {N : List Str} {qual : Str} {scope : Scope} {f : Addr} {cdv : Value} {A : Around} {outer : List PySem.Env} {s : Shared} {H : Hp} {E : XK} {r : Addr} (hnd : N.Nodup) (lk : Lk { g with N := N, pin := some 1 } Φ ec P w K mg base k)
    (hr : Room k (A.deeper (envOfC qual scope s.heap.objs.size f cdv))) :
    OkT { g with N := N, pin := some 1 } k true scope (cxOf (L2.CX P w) P w K mg base N qual scope f cdv A outer s H E) ⟨Φ, ec, fun cls d _ H => E cls d H, none, N.length, some (1, r)⟩ where
  hN := rfl
  nl := rfl
  pn := fun i a e => by cases e; rfl
  nd := hnd
  sc := rfl
  cal := rfl
  room := fun _ => hr
  un := by have := hr.un; show (A.deeper (envOfC qual scope s.heap.objs.size f cdv)).units + 150 < cLine; omega
  lk := lk
  tk := takes_of rfl rfl rfl rfl
  nosx := fun _ => rfl
  sx := fun i c a e => by cases e
  hs := rfl
  hf := rfl
  st := fun x h => ⟨loc_of h, .inl rfl⟩
  po := passes_of rfl
theorem runFn_own {m : Nat} {ir : List S} {d : D} {l : List D} : runFn Φ fu ⟨2, m, [.own 1 ir]⟩ [d, .list l] = match evSs Φ fu ir (sets ([.f d, .f (.list l)] ++ List.replicate (m - 2) .u) 1 (.o (.list l))) with
    | .nx env1 => (match geti env1 1 with
      | .o d => .ok d
      | _ => .st)
    | _ => .st := by
  have e : runFn Φ fu ⟨2, m, [.own 1 ir]⟩ [d, .list l] = match evSs Φ fu [.own 1 ir] ([.f d, .f (.list l)] ++ List.replicate (m - 2) .u) with
    | .nx _ => .ok .none
    | .rt d => .ok d
    | .ex c _ => .ex c
    | _ => .st := by
    unfold runFn
    exact if_pos rfl
  rw [e, evSs_one]
  have e1 : geti ([.f d, .f (.list l)] ++ List.replicate (m - 2) .u) 1 = .f (.list l) := rfl
  simp only [evS, e1]
  cases evSs Φ fu ir (sets ([.f d, .f (.list l)] ++ List.replicate (m - 2) .u) 1 (.o (.list l))) with
  | nx env1 =>
    simp only
    cases geti env1 1 <;> rfl
  | _ => rfl
/-- a procedure keeps what its body's evaluation tells -/
theorem pr_ok {N ps : List Str} {x qual : Str} {params : Arguments} {body : List Stmt} {scope : Scope} {f : Addr} {fd : FuncData} {n : Nat} {ir : List S} (F : FunD K x qual params body scope [] [] f fd) (Sc : FnScope N ps scope) (hnp : ps.length = 2)
    (h : cTl { g with N := N, pin := some 1 } n scope body = some ir) (lk : Lk { g with N := N, pin := some 1 } Φ ec P w K mg base k) : FnOk P w K mg base (L2.CX P w) (k + 1) f fd ps (spP (runFn Φ fu ⟨2, N.length, [.own 1 ir]⟩)) := by
  refine F.ok Sc (fun vs H Q E h => by rw [hnp]; exact h.1) fun cdv A outer s H vs Q E hr hsp => ?_
  obtain ⟨_, v, r, rfl, A', d, l, xs, tr, hAr, rv, hH, z, ra, q⟩ := hsp
  have hpl : 2 ≤ N.length := by have := congrArg List.length Sc.pre; rw [List.length_take, hnp] at this; omega
  refine ⟨_, s_tl (fu := fu) (okT_pin (r := r) Sc.nd lk hr) n h, fun _ _ q => q, ?_⟩
  have e0 : ([d, .list l].map Sl.f ++ List.replicate (N.length - 2) .u) = [.f d, .f (.list l)] ++ List.replicate (N.length - 2) .u := rfl
  refine ⟨fun b => if b = r then none else H b, fun b => A' b ∧ b ≠ r, sets ([.f d, .f (.list l)] ++ List.replicate (N.length - 2) .u) 1 (.o (.list l)), ⟨fun _ => r, ?_⟩, ?_⟩
  · have g0 : ∀ i s, geti (sets ([.f d, .f (.list l)] ++ List.replicate (N.length - 2) .u) 1 (.o (.list l))) i = s → (i = 0 ∧ s = .f d) ∨ (i = 1 ∧ s = .o (.list l)) ∨ s = .u := by
      intro i s e
      match i, e with
      | 0, e => exact .inl ⟨rfl, e.symm⟩
      | 1, e => exact .inr (.inl ⟨rfl, e.symm⟩)
      | i + 2, e =>
        have e : geti (List.replicate (N.length - 2) .u) i = s := e
        have := geti_args [] (N.length - 2) i s (by simpa using e)
        rcases this with h | ⟨_, _, h⟩
        · exact .inr (.inr h)
        · simp at h
    have hl0 : (L2.start N [v, .ref r])[0]? = some (some v) := rfl
    have hl1 : (L2.start N [v, .ref r])[1]? = some (some (.ref r)) := rfl
    have av : ∀ a, A' a → Av (fun b => A' b ∧ b ≠ r) (sets ([.f d, .f (.list l)] ++ List.replicate (N.length - 2) .u) 1 (.o (.list l))) (fun _ => r) a := fun a q => by
      by_cases c : a = r
      · exact .inr ⟨1, .list l, rfl, c.symm⟩
      · exact .inl ⟨q, c⟩
    have av2 : ∀ a, Av (fun b => A' b ∧ b ≠ r) (sets ([.f d, .f (.list l)] ++ List.replicate (N.length - 2) .u) 1 (.o (.list l))) (fun _ => r) a → A' a := fun a q => by
      rcases q with q | ⟨_, _, _, q⟩
      · exact q.1
      · rw [← q]; exact hAr
    refine ⟨fun a o e => ?_, fun a q => ?_, ?_, ?_, fun i d' e => ?_, fun i j d' e h1 h2 q => ?_, fun i d' e => ?_, fun i c e => ?_, fun i a e => ?_⟩
    · split at e
      · cases e
      · exact e
    · simp only [if_neg q.2]
      exact tr a q.1
    · unfold L2.start
      show _ = N.length
      simp
      omega
    · rw [sets_length]
      show _ = N.length
      simp
      omega
    · rcases g0 i _ e with ⟨_, h⟩ | ⟨h1, h⟩ | h
      · cases h
      · cases h
        subst h1
        exact ⟨hl1, by simp, _, hH, .lst z (RpA.less av2 _ _ ra)⟩
      · cases h
    · rcases g0 i _ h1 with ⟨_, h⟩ | ⟨h1, _⟩ | h
      · cases h
      · rcases g0 j _ h2 with ⟨_, h⟩ | ⟨h2, _⟩ | h
        · cases h
        · rw [h1, h2]
        · cases h
      · cases h
    · rcases g0 i _ e with ⟨h1, h⟩ | ⟨h1, h⟩ | h
      · cases h
        subst h1
        exact ⟨v, hl0, Rp.less av2 _ _ rv⟩
      · cases h
      · cases h
    · rcases g0 i _ e with ⟨_, h⟩ | ⟨_, h⟩ | h <;> cases h
    · cases e
      exact hl1
  · rw [runFn_own] at q
    show Endo _ _ _ _ (evSs Φ fu ir (sets ([.f d, .f (.list l)] ++ List.replicate (N.length - 2) .u) 1 (.o (.list l))))
    cases e : evSs Φ fu ir (sets ([.f d, .f (.list l)] ++ List.replicate (N.length - 2) .u) 1 (.o (.list l))) with
    | nx env1 =>
      rw [e] at q
      intro σ' H' ⟨ow, h⟩
      cases e2 : geti env1 1 with
      | o d' =>
        simp only [e2] at q
        cases d' with
        | list l' =>
          obtain ⟨c1, c2, o, c3, c4⟩ := h.own 1 _ e2
          have c5 := h.inv 1 r rfl
          rw [c1] at c5
          have c6 : ow 1 = r := by
            injection c5 with c5
            injection c5 with c5
            injection c5
          rw [c6] at c3
          cases c4 with
          | @lst xs' _ z' ra' =>
            refine q H' xs' (fun b o hb hbo => h.same b o (by simp only [if_neg hb]; exact hbo)) c3 z' (RpA.less (fun a qa => ?_) _ _ ra')
            by_cases c : a = r
            · exact .inr ⟨1, _, e2, by rw [c6, c]⟩
            · exact .inl ⟨qa, c⟩
        | _ => exact q.elim
      | _ => simp only [e2] at q
    | _ => rw [e] at q; exact q.elim
structure LkS (g : G) (ec : Str → Addr) (K : PySem.W.Frag) (mg : Str → Option Value) : Prop where
  bi : ∀ x, x ∈ biNames → mg x = none
  ci : ∀ x i, g.cis.lookup x = some i → ∃ t, mg x = some (.int i t)
  ct : ∀ x l, g.cts.lookup x = some l → ∃ a, mg x = some (.ref a) ∧ ∀ H, Dp K H (.ref a) (.tuple l)
  cl : ∀ c, c ∈ g.ecs → Cl K mg (ec c) c
  ex : ∀ c d, c ∈ g.ecs → d ∈ g.ecs → PySem.W.exmOne K (.ref (ec c)) (.ref (ec d)) = some (subC c d)
  ix : g.isx = true → ∀ c d, c ∈ g.ecs → d ∈ g.ecs → ExcC K (ec c) ∧ PySem.W.kitOne K (.ref (ec c)) (.ref (ec d)) = some (subC c d)
/-- a def of the module, its body read -/
def DefOk0 (g : G) (K : PySem.W.Frag) (mg : Str → Option Value) (T : Str → Option Fn) (f : Str) (n : Nat) : Prop :=
  ∃ (fa : Addr) (fd : FuncData) (ps N : List Str) (x qual : Str) (params : Arguments) (body : List Stmt) (scope : Scope) (m : Nat) (ir : List S), mg f = some (.ref fa) ∧ FunD K x qual params body scope [] [] fa fd ∧ (∀ (s : Shared) (us : List Value), us.length = ps.length → BindsTo s fd ⟨us, []⟩ (ps.zip us)) ∧ FnScope N ps scope ∧ ps.length = n ∧
    cSs { g with N := N } m true scope body = some ir ∧ T f = some ⟨n, N.length, ir⟩
/-- a def whose walk is a proof of its own -/
def NatOk (g : G) (K : PySem.W.Frag) (mg : Str → Option Value) (T : Str → Option Fn) (f : Str) (n : Nat) : Prop :=
  ∃ (fa : Addr) (fd : FuncData) (ps : List Str) (F : Phi → List D → R D), mg f = some (.ref fa) ∧ PySem.W.keepIn K (.ref fa) = true ∧ Binds K fd ps [] ∧ ps.length = n ∧ T f = some ⟨n, n, [.nat n F]⟩ ∧
    ∀ (ec : Str → Addr) (P : Program) (w : World) (base : Heap) (Φ : Phi) (k : Nat), Lk g Φ ec P w K mg base k → FnOk P w K mg base (L2.CX P w) (k + 1) fa fd ps (spOf ec n (F Φ))
def DefOk (g : G) (K : PySem.W.Frag) (mg : Str → Option Value) (T : Str → Option Fn) (f : Str) (n : Nat) : Prop := DefOk0 g K mg T f n ∨ NatOk g K mg T f n
theorem argsD_map : ∀ (ds : List D) (r : Env), argsD ds.length (ds.map .f ++ r) = some ds
  | [], r => by cases r <;> rfl
  | d :: ds, r => by
    simp only [List.length_cons, List.map_cons, List.cons_append, argsD, argsD_map ds r, Option.map_some]
theorem run_nat {Φ : Phi} {fu n : Nat} {F : Phi → List D → R D} {ds : List D} (h : ds.length = n) : runFn Φ fu ⟨n, n, [.nat n F]⟩ ds = F Φ ds := by
  subst h
  unfold runFn
  rw [if_pos rfl]
  simp only [evSs, evS, argsD_map]
  cases F Φ ds <;> rfl
theorem Lk.withN {N : List Str} (h : Lk g Φ ec P w K mg base k) : Lk { g with N := N } Φ ec P w K mg base k := ⟨h.fn, h.pr, h.bi, h.ci, h.ct, h.cl, h.ex, h.ix⟩
theorem binds_of {fd : FuncData} {ps : List Str} (hb : ∀ (s : Shared) (us : List Value), us.length = ps.length → BindsTo s fd ⟨us, []⟩ (ps.zip us)) : Binds K fd ps [] := fun s us _ hl => by
  rw [List.append_nil] at hl ⊢
  exact hb s us hl
/-- a procedure of the module, its body read -/
def ProOk (g : G) (K : PySem.W.Frag) (mg : Str → Option Value) (T : Str → Option Fn) (f : Str) : Prop :=
  ∃ (fa : Addr) (fd : FuncData) (ps N : List Str) (x qual : Str) (params : Arguments) (body : List Stmt) (scope : Scope) (m : Nat) (ir : List S), mg f = some (.ref fa) ∧ FunD K x qual params body scope [] [] fa fd ∧ (∀ (s : Shared) (us : List Value), us.length = ps.length → BindsTo s fd ⟨us, []⟩ (ps.zip us)) ∧ FnScope N ps scope ∧ ps.length = 2 ∧
    cTl { g with N := N, pin := some 1 } m scope body = some ir ∧ T f = some ⟨2, N.length, [.own 1 ir]⟩
theorem Lk.withP {N : List Str} (h : Lk g Φ ec P w K mg base k) : Lk { g with N := N, pin := some 1 } Φ ec P w K mg base k := ⟨h.fn, h.pr, h.bi, h.ci, h.ct, h.cl, h.ex, h.ix⟩
theorem fnOk_impP {f : Addr} {fd : FuncData} {ps : List Str} {F G : List D → R D} {m : Nat} (h : FnOk P w K mg base (L2.CX P w) m f fd ps (spP F)) (e : ∀ d l, F [d, .list l] = G [d, .list l]) : FnOk P w K mg base (L2.CX P w) m f fd ps (spP G) :=
  h.imp fun vs H Q E ⟨hl, v, r, e1, A, d, l, xs, tr, hA, rv, hH, z, ra, q⟩ => ⟨hl, v, r, e1, A, d, l, xs, tr, hA, rv, hH, z, ra, by rw [e]; exact q⟩
theorem lk_all {T : Str → Option Fn} (L : LkS g ec K mg) (Pr : ∀ f, f ∈ g.prs → ProOk g K mg T f) (D : ∀ f n, g.fns.lookup f = some n → DefOk g K mg T f n) : ∀ k, Lk g (callP T fu k) ec P w K mg base k
  | 0 => by
    refine ⟨fun f n e => ?_, fun f hf => ?pr, L.bi, L.ci, L.ct, L.cl, L.ex, L.ix⟩
    case pr =>
      obtain ⟨fa, fd, ps, N, x, qual, params, body, scope, m, ir, h1, F, hb, Sc, hn, hc, hT⟩ := Pr f hf
      have no : ∀ vs H Q E, ¬ spP (callP T fu 0 f) vs H Q E := fun vs H Q E ⟨_, v, r, _, A, d, l, xs, _, _, _, _, _, _, q⟩ => q
      exact ⟨fa, fd, ps, h1, F.kp, binds_of hb, hn, ⟨fun vs H Q E h => absurd h (no vs H Q E), fun A outer s H args us vs Q E _ _ _ _ h => absurd h (no vs H Q E)⟩⟩
    have no : ∀ vs H Q E, ¬ spOf ec n (callP T fu 0 f) vs H Q E := fun vs H Q E ⟨_, A, ds, _, _, q⟩ => q
    rcases D f n e with ⟨fa, fd, ps, N, x, qual, params, body, scope, m, ir, h1, F, hb, Sc, hn, hc, hT⟩ | ⟨fa, fd, ps, F, h1, hk, hb, hn, hT, hF⟩
    · exact ⟨fa, fd, ps, h1, F.kp, binds_of hb, hn, ⟨fun vs H Q E h => absurd h (no vs H Q E), fun A outer s H args us vs Q E _ _ _ _ h => absurd h (no vs H Q E)⟩⟩
    · exact ⟨fa, fd, ps, h1, hk, hb, hn, ⟨fun vs H Q E h => absurd h (no vs H Q E), fun A outer s H args us vs Q E _ _ _ _ h => absurd h (no vs H Q E)⟩⟩
  | k + 1 => by
    have IH := lk_all L Pr D k
    refine ⟨fun f n e => ?_, fun f hf => ?pr, L.bi, L.ci, L.ct, L.cl, L.ex, L.ix⟩
    case pr =>
      obtain ⟨fa, fd, ps, N, x, qual, params, body, scope, m, ir, h1, F, hb, Sc, hn, hc, hT⟩ := Pr f hf
      refine ⟨fa, fd, ps, h1, F.kp, binds_of hb, hn, fnOk_impP (pr_ok (fu := fu) F Sc hn hc IH.withP) fun d l => ?_⟩
      unfold callP
      rw [hT]
    rcases D f n e with ⟨fa, fd, ps, N, x, qual, params, body, scope, m, ir, h1, F, hb, Sc, hn, hc, hT⟩ | ⟨fa, fd, ps, F, h1, hk, hb, hn, hT, hF⟩
    · refine ⟨fa, fd, ps, h1, F.kp, binds_of hb, hn, (fn_ok (fu := fu) F Sc hn hc IH.withN).imp fun vs H Q E q => ?_⟩
      have e2 : callP T fu (k + 1) f = runFn (callP T fu k) fu ⟨n, N.length, ir⟩ := by
        funext ds
        unfold callP
        rw [hT]
      rw [e2] at q
      exact q
    · refine ⟨fa, fd, ps, h1, hk, hb, hn, (hF ec P w base (callP T fu k) k IH).imp fun vs H Q E ⟨hl, A, ds, tr, r, q⟩ => ⟨hl, A, ds, tr, r, ?_⟩⟩
      have hd : ds.length = n := by have := r.length; omega
      have e2 : callP T fu (k + 1) f ds = F (callP T fu k) ds := by
        unfold callP
        rw [hT]
        exact run_nat hd
      rw [e2] at q
      exact q
end
def frX (as : PySem.W.Frag) : PySem.W.Frag := as.filter fun p => decide (p.2.cls ≠ .type "list")
theorem lookup_mem {α β : Type} [BEq α] [LawfulBEq α] : ∀ {l : List (α × β)} {a : α} {b : β}, l.lookup a = some b → (a, b) ∈ l
  | (x, y) :: r, a, b, h => by
    rw [List.lookup_cons] at h
    split at h
    · rename_i c
      have c := eq_of_beq c
      cases h
      subst c
      exact List.mem_cons_self
    · exact List.mem_cons_of_mem _ (lookup_mem h)
theorem frG_mem {g : Addr → Option Obj} {a : Addr} {o : Obj} {as : List Addr} (h : (a, o) ∈ He.frG g as) : g a = some o := by
  unfold He.frG at h
  obtain ⟨b, _, e⟩ := List.mem_filterMap.mp h
  cases q : g b with
  | none => rw [q] at e; cases e
  | some o' =>
    rw [q] at e
    cases e
    exact q
def obsX (chk : PySem.W.Frag → Bool) (fn : List He.DefD) (K : PySem.W.Frag) : He.AlD := (chk K && fn.all fun d => d.ok K, fn.map fun d => He.fnW K d.at_)
def SaysX (chk : PySem.W.Frag → Bool) (fn : List He.DefD) (K : PySem.W.Frag) : Prop := (∀ a o, K.lookup a = some o → o.cls ≠ .type "list") ∧ obsX chk fn K = He.valD fn
def obsXG (n : Nat) (chk : PySem.W.Frag → Bool) (fn : List He.DefD) (g : Addr → Option Obj) : He.AlD := obsX chk fn (frX (He.frG g (He.asD g n)))
theorem frX_in {g : Addr → Option Obj} {h : Heap} {as : List Addr} (e : g = h.get?) : (frX (He.frG g as)).In h := fun a o q => by
  have m := lookup_mem q
  unfold frX at m
  have := frG_mem (List.mem_filter.mp m).1
  rw [e] at this
  exact this
def hookX (n : Nat) (chk : PySem.W.Frag → Bool) (fn : List He.DefD) : PySem.W.Hook where
  α := He.AlD
  obs := fun s => obsXG n chk fn s.heap.get?
  val := fun _ => He.valD fn
  says := fun _ h => ∃ K : PySem.W.Frag, K.In h ∧ SaysX chk fn K
  of := fun _ _ e => ⟨_, frX_in rfl, fun a o q => by
    have m := lookup_mem q
    unfold frX at m
    exact of_decide_eq_true (List.mem_filter.mp m).2, e⟩
  keeps := fun _ _ _ ⟨K, hK, c⟩ k => ⟨K, PySem.W.Frag.In.keeps hK k, c⟩
theorem obsXG_eq {n : Nat} {chk : PySem.W.Frag → Bool} {fn : List He.DefD} {g : Addr → Option Obj} {s : Shared} (h : ∀ a, g a = s.heap.get? a) : obsXG n chk fn g = (hookX n chk fn).obs s := by
  have e : g = s.heap.get? := funext h
  rw [e] <;> rfl
section
variable {chk : PySem.W.Frag → Bool} {fn : List He.DefD} {K : PySem.W.Frag}
theorem SaysX.chk_ (c : SaysX chk fn K) : chk K = true := (He.ba (show (_ && fn.all fun d => d.ok K) = true from congrArg (fun z : He.AlD => z.1) c.2)).1
theorem SaysX.def_ (c : SaysX chk fn K) (i : Nat) {d : He.DefD} (h : fn[i]? = some d) : ∃ fd, FunD K d.name d.qual d.params d.body d.scope (d.dvs K) (d.kws K) (He.fAd K d.at_) fd := by
  have c2 := (He.ba (show (_ && fn.all fun d => d.ok K) = true from congrArg (fun z : He.AlD => z.1) c.2)).2
  have e : fn.map (fun d => He.fnW K d.at_) = fn.map He.DefD.val := congrArg (fun z : He.AlD => z.2) c.2
  have e2 : (fn.map fun d => He.fnW K d.at_)[i]? = (fn.map He.DefD.val)[i]? := by rw [e]
  rw [List.getElem?_map, List.getElem?_map, h] at e2
  exact He.DefD.funD (Option.some.inj e2) (List.all_eq_true.mp c2 d (List.mem_of_getElem? h))
end
def dvD : D → He.Dv
  | .int i => .int i
  | .str s => .str s
  | _ => .non
def isStrD : D → Bool
  | .int _ => true
  | .str _ => true
  | _ => false
theorem dp_strs {K : PySem.W.Frag} {H : Hp} : ∀ {l : List D}, l.all isStrD = true → DpAll K H ((l.map dvD).map (He.Dv.v K)) l
  | [], _ => .nil
  | d :: l, h => by
    simp only [List.all_cons, Bool.and_eq_true] at h
    obtain ⟨h1, h2⟩ := h
    refine .cons ?_ (dp_strs h2)
    cases d with
    | int i => exact .int i
    | str s => exact .str s
    | _ => cases h1
def isxB (K : PySem.W.Frag) (c : Str) : Bool := decide (PySem.W.findIn K (.ref (He.ga K c)) "__getattribute__" = some (some (.builtin "BaseException.__getattribute__"))) && (decide (PySem.W.findIn K (.ref (He.ga K c)) "__getattr__" = some none) && (decide (PySem.W.subIn K (.ref (He.ga K c)) (.type "BaseException") = some true) && (PySem.W.hasDictIn K (He.ga K c) && (decide (PySem.W.findIn K (.ref (He.ga K c)) "__class__" = some (some (.builtin "object.__class__"))) && (decide (PySem.W.specialIn K (.builtin "object.__class__") "__get__" = some (some (.builtin "getset_descriptor.__get__"))) && (decide (PySem.W.takesIn K (.builtin "object.__class__") = some true) && decide (PySem.W.mroIn K (He.ga K c) (.type "object") = some true)))))))
theorem isxB_ok {K : PySem.W.Frag} {c : Str} (h : isxB K c = true) : ExcC K (He.ga K c) := by
  unfold isxB at h
  simp only [Bool.and_eq_true, decide_eq_true_eq] at h
  obtain ⟨h1, h2, h3, h4, h5, h6, h7, h8⟩ := h
  exact ⟨h1, h2, h3, h4, h5, h6, h7, h8⟩
/-- what is asked of the head -/
def chkG (g : G) (K : PySem.W.Frag) : Bool := biNames.all (fun x => (He.Fa.free x).ok K) && (g.cis.all (fun p => (He.Fa.int p.1 p.2).ok K) && (g.ecs.all (fun c => (He.Fa.glo c).ok K && (He.Fa.exc c).ok K && g.ecs.all fun d => (He.Fa.exm c d (subC c d)).ok K) && (g.fns.all (fun p => (He.Fa.glo p.1).ok K) && (g.cts.all (fun p => (He.Fa.glo p.1).ok K && (He.tupB K p.1 (p.2.map dvD) && p.2.all isStrD)) && (g.prs.all (fun f => (He.Fa.glo f).ok K) && (!g.isx || g.ecs.all fun c => isxB K c && g.ecs.all fun d => decide (PySem.W.kitOne K (.ref (He.ga K c)) (.ref (He.ga K d)) = some (subC c d))))))))
theorem chkG_ok {g : G} {K : PySem.W.Frag} {h : Heap} {mg : Str → Option Value} (X : K.In h) (G : h.Ns mainGlobals mg) (c : chkG g K = true) : LkS g (He.ga K) K mg ∧ (∀ f n, g.fns.lookup f = some n → mg f = some (.ref (He.ga K f))) ∧ ∀ f, f ∈ g.prs → mg f = some (.ref (He.ga K f)) := by
  unfold chkG at c
  simp only [Bool.and_eq_true, Bool.or_eq_true, List.all_eq_true, Bool.not_eq_true'] at c
  obtain ⟨c1, c2, c3, c4, c5, c7, c6⟩ := c
  refine ⟨⟨fun x hx => He.free_ok X G (c1 x hx), fun x i e => He.int_ok X G (c2 _ (lookup_mem e)), fun x l e => ?_, fun cl hc => ?_, fun cl d hc hd => He.exm_ok ((c3 cl hc).2 d hd), fun e c d hc hd => by
    rcases c6 with c6 | c6
    · rw [c6] at e; cases e
    · obtain ⟨k1, k2⟩ := c6 c hc
      exact ⟨isxB_ok k1, of_decide_eq_true (k2 d hd)⟩⟩, fun f n e => He.glo_ok X G (c4 _ (lookup_mem e)), fun f hf => He.glo_ok X G (c7 f hf)⟩
  · obtain ⟨k1, k2, k3⟩ := c5 _ (lookup_mem e)
    exact ⟨_, He.glo_ok X G k1, fun H => .tup (He.tupB_ok k2 H) (dp_strs (List.all_eq_true.mpr k3))⟩
  · obtain ⟨⟨h1, h2⟩, _⟩ := c3 cl hc
    obtain ⟨k1, k2, k3, k4⟩ := He.exc_ok h2
    exact ⟨He.glo_ok X G h1, k2, k1, k3, k4⟩
/-- a law, by its plain reading -/
theorem walk_PC {l : PySem.W.OpenLaw} {n k : Nat} {q : Program} {loose : List Str} {XP : (Str → Option Value) → Heap → Prop} {d : DefRec} {g : G} {fn : List He.DefD} {T : Str → Option Fn} {fu : Nat} {nm : Str}
    (hn : l.most = some n) (hn2 : n ≤ sizeLine) (hdf : d.params.defaults = []) (hnm : d.name = nm) (hr : Room (k + 1) callerA) (hlaw : g.fns.lookup nm = some 1)
    (hD : ∀ (K : PySem.W.Frag) (mg : Str → Option Value), SaysX (chkG g) fn K → (∀ f n, g.fns.lookup f = some n → mg f = some (.ref (He.ga K f))) → ∀ f n, g.fns.lookup f = some n → DefOk g K mg T f n)
    (hD0 : ∀ (K : PySem.W.Frag) (mg : Str → Option Value), SaysX (chkG g) fn K → (∀ f n, g.fns.lookup f = some n → mg f = some (.ref (He.ga K f))) → DefOk0 g K mg T nm 1)
    (hP : ∀ (K : PySem.W.Frag) (mg : Str → Option Value), SaysX (chkG g) fn K → (∀ f, f ∈ g.prs → mg f = some (.ref (He.ga K f))) → ∀ f, f ∈ g.prs → ProOk g K mg T f)
    (hpl : ∀ ns : List Int, ns.length ≤ n → callP T fu (k + 1) nm [.list (ns.map .int)] = .ok (.bool true)) :
    PySem.W.WalkO q loose XP (fun _ h => ∃ K : PySem.W.Frag, K.In h ∧ SaysX (chkG g) fn K) l.row.toRowW d [] (fun f vs => PySem.call f vs) := by
  refine Att.attach_call hn hdf fun w s₀ s₁ mg mb fa o pm cd doc a vs ns G0 Y ho hd hcd hmg hobj hints hlen hg => ?_
  obtain ⟨K, KX, says⟩ := Y
  obtain ⟨L, hglo, hglp⟩ := chkG_ok KX G0.T.g says.chk_
  obtain ⟨fa', fd, ps, N, x, qual, params, body, scope, m, ir, h1, F, hb, Sc, hn1, hc, hT⟩ := hD0 K mg says hglo
  rw [hnm, h1] at hmg
  cases hmg
  match ps, hn1 with
  | [y], _ =>
    refine law_call (CX := L2.CX l.prog w) (x := y) (sp := spOf (He.ga K) 1 (runFn (callP T fu k) fu ⟨1, N.length, ir⟩)) KX G0.T.g G0.T.b G0.T.builtins G0.T.nolimit hg hobj hints (Nat.le_trans hlen hn2) hr
      (fun base _ _ => fn_ok F Sc rfl hc (lk_all L (hP K mg says hglp) (hD K mg says hglo) k).withN) (fun s u => hb s [u] rfl) (fun H hO hS => ?_) fun H e s' hz => ?_
    · have hS : Rd H a (.lst (ns.map V.int)) := by
        rcases hS with h | ⟨o, its, n, hk, hc, _⟩
        · exact h
        · exact absurd hc (says.1 _ _ hk)
      refine ⟨rfl, fun _ => False, [.list (ns.map .int)], fun a z => z.elim, .cons (.lst id hS (by rw [List.length_map]; exact Nat.le_trans hlen hn2) RpA.ofInts) .nil, ?_⟩
      have e := hpl ns hlen
      unfold callP at e
      rw [hT] at e
      simp only at e
      rw [e]
      intro v H' _ r
      cases r
      rfl
    · obtain ⟨_, _, _, _, _, _, _, _, _, _, _, _, z⟩ := hz
      exact z
end PC
set_option Elab.async false
set_option linter.all false
namespace PC
open PySem PySem.Spec PyProof.Rows L2
def addN (s : List (List Int)) (k : Nat) (x : Int) : List (List Int) := s.set k (s.getD k [] ++ [x])
theorem addN_len {s : List (List Int)} {k : Nat} {x : Int} : (addN s k x).length = s.length := by unfold addN; rw [List.length_set]
/-- the lists of a list, each an object of its own -/
structure Cells (H : Hp) (D : Addr) (as : List Addr) (s : List (List Int)) (m : Nat) : Prop where
  top : H D = some (.lst (as.map V.ref))
  nd : as.Nodup
  ne : D ∉ as
  len : s.length = as.length
  at_ : ∀ k (h : k < as.length), H as[k] = some (.lst ((s.getD k []).map V.int))
  few : ∀ k, (s.getD k []).length ≤ m
theorem Cells.put {H : Hp} {D : Addr} {as : List Addr} {s : List (List Int)} {m k : Nat} {x : Int} (h : Cells H D as s m) (hk : k < as.length) : Cells (upd H as[k] (.lst ((s.getD k []).map V.int ++ [V.int x]))) D as (addN s k x) (m + 1) := by
  have hne : as[k] ≠ D := fun e => h.ne (by rw [← e]; exact List.getElem_mem hk)
  have hs : k < s.length := by rw [h.len]; exact hk
  have g : ∀ j, (addN s k x).getD j [] = if j = k then s.getD k [] ++ [x] else s.getD j [] := fun j => by
    unfold addN
    simp only [List.getD_eq_getElem?_getD, List.getElem?_set]
    by_cases c : k = j
    · subst c
      simp [hs]
    · simp [c, Ne.symm c]
  refine ⟨by rw [upd_ne hne.symm]; exact h.top, h.nd, h.ne, by rw [addN_len]; exact h.len, fun j hj => ?_, fun j => ?_⟩
  · rw [g]
    by_cases c : j = k
    · subst c
      rw [if_pos rfl, upd_same, List.map_append]
      rfl
    · rw [if_neg c]
      have : as[j] ≠ as[k] := fun e => c (by
        rcases Nat.lt_trichotomy j k with q | q | q
        · exact absurd e (List.pairwise_iff_getElem.mp h.nd j k hj hk q)
        · exact q
        · exact absurd e.symm (List.pairwise_iff_getElem.mp h.nd k j hk hj q))
      rw [upd_ne this]
      exact h.at_ j hj
  · rw [g]
    split
    · have := h.few k
      simp only [List.length_append, List.length_singleton]
      omega
    · have := h.few j
      omega
section
variable {g : G} {ec : Str → Addr} {P : Program} {w : World} {K : PySem.W.Frag} {mg : Str → Option Value} {base : Heap} {k : Nat} {Φ : Phi}
/-- what the first statement leaves -/
structure Made (H H1 : Hp) (D : Addr) (as : List Addr) (n : Nat) : Prop where
  same : Same H H1
  top : H1 D = some (.lst (as.map V.ref))
  len : as.length = n
  nd : as.Nodup
  fr : ∀ a ∈ as, H a = none ∧ a ≠ D ∧ H1 a = some (.lst [])
  frD : H D = none
theorem Made.cells {H H1 : Hp} {D : Addr} {as : List Addr} {n : Nat} (h : Made H H1 D as n) : Cells H1 D as (List.replicate n []) 0 := by
  have g : ∀ k, (List.replicate n ([] : List Int)).getD k [] = [] := fun k => by
    rw [List.getD_eq_getElem?_getD, List.getElem?_replicate]
    split <;> rfl
  refine ⟨h.top, h.nd, fun m => (h.fr D m).2.1 rfl, by rw [List.length_replicate, h.len], fun k hk => ?_, fun k => by rw [g]; exact Nat.le_refl _⟩
  rw [g]
  exact (h.fr _ (List.getElem_mem hk)).2.2
theorem Cells.same {H H' : Hp} {D : Addr} {as : List Addr} {s : List (List Int)} {m : Nat} (h : Cells H D as s m) (q : Same H H') : Cells H' D as s m := ⟨q _ _ h.top, h.nd, h.ne, h.len, fun k hk => q _ _ (h.at_ k hk), h.few⟩
end
end PC
set_option Elab.async false
set_option linter.all false
namespace PC
open PySem
theorem callP_succ {T : Str → Option Fn} {fu k : Nat} {f : Str} {fn : Fn} (h : T f = some fn) (ds : List D) : callP T fu (k + 1) f ds = runFn (callP T fu k) fu fn ds := by
  show (match T f with | some fn => runFn (callP T fu k) fu fn ds | none => .st) = _
  rw [h]
@[simp] theorem bind_ok {α β : Type} {a : α} {f : α → R β} : (R.ok a).bind f = f a := rfl
@[simp] theorem bind_ex {α β : Type} {c : Str} {f : α → R β} : (R.ex c).bind f = .ex c := rfl
@[simp] theorem bind_st {α β : Type} {f : α → R β} : (R.st : R α).bind f = .st := rfl
@[simp] theorem onR_ok {α : Type} {a : α} {env : Env} {k : α → Out} : onR (.ok a) env k = k a := rfl
@[simp] theorem onR_ex {α : Type} {c : Str} {env : Env} {k : α → Out} : onR (.ex c) env k = .ex c env := rfl
@[simp] theorem onR_st {α : Type} {env : Env} {k : α → Out} : onR (.st : R α) env k = .st := rfl
@[simp] theorem z_ss0 {Φ : Phi} {fu : Nat} {env : Env} : evSs Φ fu [] env = .nx env := by first | rfl | simp only [evSs, evS, evE, evs, evC, evO, evT, evI]
@[simp] theorem z_ss1 {Φ : Phi} {fu : Nat} {env : Env} {s : S} {r : List S} : evSs Φ fu (s :: r) env = (match evS Φ fu s env with | .nx env1 => evSs Φ fu r env1 | o => o) := by first | rfl | simp only [evSs, evS, evE, evs, evC, evO, evT, evI]
@[simp] theorem z_asg1 {Φ : Phi} {fu : Nat} {env : Env} {i : Nat} {e : E} : evS Φ fu (.asg (.n i) e) env = onR (evE Φ e env) env fun d => .nx (putS e i d env) := by first | rfl | simp only [evSs, evS, evE, evs, evC, evO, evT, evI]
@[simp] theorem z_asgT {Φ : Phi} {fu : Nat} {env : Env} {is : List Nat} {e : E} : evS Φ fu (.asg (.t is) e) env = onR (evE Φ e env) env fun d => match asgT (.t is) d (shr e.vars d env) with | some env1 => .nx env1 | none => .st := by first | rfl | simp only [evSs, evS, evE, evs, evC, evO, evT, evI]
@[simp] theorem z_ite {Φ : Phi} {fu : Nat} {env : Env} {c : E} {a b : List S} : evS Φ fu (.ite c a b) env = onR (toB (evE Φ c env)) env fun k => if k then evSs Φ fu a env else evSs Φ fu b env := by first | rfl | simp only [evSs, evS, evE, evs, evC, evO, evT, evI]
@[simp] theorem z_for {Φ : Phi} {fu : Nat} {env : Env} {t : T} {it : I} {b : List S} : evS Φ fu (.for_ t it b) env = onR (evI Φ it env) env fun ds => evFor (evSs Φ fu b) t ds (frzI it ds env) := by first | rfl | simp only [evSs, evS, evE, evs, evC, evO, evT, evI]
@[simp] theorem z_whl {Φ : Phi} {fu : Nat} {env : Env} {c : E} {b : List S} : evS Φ fu (.whl c b) env = evWhl (fun env => toB (evE Φ c env)) (evSs Φ fu b) fu env := by first | rfl | simp only [evSs, evS, evE, evs, evC, evO, evT, evI]
@[simp] theorem z_ret {Φ : Phi} {fu : Nat} {env : Env} {e : E} : evS Φ fu (.ret e) env = onR (evE Φ e env) env fun d => .rt d := by first | rfl | simp only [evSs, evS, evE, evs, evC, evO, evT, evI]
@[simp] theorem z_retN {Φ : Phi} {fu : Nat} {env : Env} : evS Φ fu .retN env = .rt .none := by first | rfl | simp only [evSs, evS, evE, evs, evC, evO, evT, evI]
@[simp] theorem z_raise {Φ : Phi} {fu : Nat} {env : Env} {c : Str} : evS Φ fu (.raise c) env = .ex c env := by first | rfl | simp only [evSs, evS, evE, evs, evC, evO, evT, evI]
@[simp] theorem z_brk {Φ : Phi} {fu : Nat} {env : Env} : evS Φ fu .brk env = .bk env := by first | rfl | simp only [evSs, evS, evE, evs, evC, evO, evT, evI]
@[simp] theorem z_pas {Φ : Phi} {fu : Nat} {env : Env} : evS Φ fu .pas env = .nx env := by first | rfl | simp only [evSs, evS, evE, evs, evC, evO, evT, evI]
@[simp] theorem z_exp {Φ : Phi} {fu : Nat} {env : Env} {e : E} : evS Φ fu (.exp e) env = onR (evE Φ e env) env fun _ => .nx env := by first | rfl | simp only [evSs, evS, evE, evs, evC, evO, evT, evI]
@[simp] theorem z_e_v {Φ : Phi} {env : Env} {i : Nat} : evE Φ (.v i) env = rdS (geti env i) := by first | rfl | simp only [evSs, evS, evE, evs, evC, evO, evT, evI]
@[simp] theorem z_e_int {Φ : Phi} {env : Env} {i : Int} : evE Φ (.int i) env = .ok (.int i) := by first | rfl | simp only [evSs, evS, evE, evs, evC, evO, evT, evI]
@[simp] theorem z_e_str {Φ : Phi} {env : Env} {s : Str} : evE Φ (.str s) env = .ok (.str s) := by first | rfl | simp only [evSs, evS, evE, evs, evC, evO, evT, evI]
@[simp] theorem z_e_bl {Φ : Phi} {env : Env} {b : Bool} : evE Φ (.bl b) env = .ok (.bool b) := by first | rfl | simp only [evSs, evS, evE, evs, evC, evO, evT, evI]
@[simp] theorem z_e_non {Φ : Phi} {env : Env}  : evE Φ .non env = .ok .none := by first | rfl | simp only [evSs, evS, evE, evs, evC, evO, evT, evI]
@[simp] theorem z_e_not {Φ : Phi} {env : Env} {a : E} : evE Φ (.not a) env = flt (notR (toB (evE Φ a env))) := by first | rfl | simp only [evSs, evS, evE, evs, evC, evO, evT, evI]
@[simp] theorem z_e_and {Φ : Phi} {env : Env} {a b : E} : evE Φ (.and a b) env = (toB (evE Φ a env)).bind fun c => if c then (toB (evE Φ b env)).bind fun e => .ok (.bool e) else .ok (.bool false) := by first | rfl | simp only [evSs, evS, evE, evs, evC, evO, evT, evI]
@[simp] theorem z_e_or {Φ : Phi} {env : Env} {a b : E} : evE Φ (.or a b) env = (toB (evE Φ a env)).bind fun c => if c then .ok (.bool true) else (toB (evE Φ b env)).bind fun e => .ok (.bool e) := by first | rfl | simp only [evSs, evS, evE, evs, evC, evO, evT, evI]
@[simp] theorem z_e_op {Φ : Phi} {env : Env} {o : Op} {a b : E} : evE Φ (.op o a b) env = (evE Φ a env).bind fun x => (evE Φ b env).bind fun y => evOp o x y := by first | rfl | simp only [evSs, evS, evE, evs, evC, evO, evT, evI]
@[simp] theorem z_e_cmp {Φ : Phi} {env : Env} {a : E} {r : Cs} : evE Φ (.cmp a r) env = (evE Φ a env).bind fun x => evC Φ r x env := by first | rfl | simp only [evSs, evS, evE, evs, evC, evO, evT, evI]
@[simp] theorem z_e_tup {Φ : Phi} {env : Env} {es : Es} : evE Φ (.tup es) env = (evs Φ es env).bind fun l => .ok (.tuple l) := by first | rfl | simp only [evSs, evS, evE, evs, evC, evO, evT, evI]
@[simp] theorem z_e_lst {Φ : Phi} {env : Env} {es : Es} : evE Φ (.lst es) env = (evs Φ es env).bind fun l => .ok (.list l) := by first | rfl | simp only [evSs, evS, evE, evs, evC, evO, evT, evI]
@[simp] theorem z_e_ix {Φ : Phi} {env : Env} {a b : E} : evE Φ (.ix a b) env = (evE Φ a env).bind fun x => (evE Φ b env).bind fun y => evIx x y := by first | rfl | simp only [evSs, evS, evE, evs, evC, evO, evT, evI]
@[simp] theorem z_e_sl {Φ : Phi} {env : Env} {a : E} {lo hi : Oe} : evE Φ (.sl a lo hi) env = (evE Φ a env).bind fun x => (evO Φ lo env).bind fun i => (evO Φ hi env).bind fun j => evSl x i j := by first | rfl | simp only [evSs, evS, evE, evs, evC, evO, evT, evI]
@[simp] theorem z_e_call {Φ : Phi} {env : Env} {f : Str} {es : Es} : evE Φ (.call f es) env = (evs Φ es env).bind fun l => Φ f l := by first | rfl | simp only [evSs, evS, evE, evs, evC, evO, evT, evI]
@[simp] theorem z_e_bi {Φ : Phi} {env : Env} {b : Bi} {es : Es} : evE Φ (.bi b es) env = (evs Φ es env).bind fun l => evBi b l := by first | rfl | simp only [evSs, evS, evE, evs, evC, evO, evT, evI]
@[simp] theorem z_e_mth {Φ : Phi} {env : Env} {m : Mt} {a b : E} : evE Φ (.mth m a b) env = (evE Φ a env).bind fun x => if mOk m x then (evE Φ b env).bind fun y => evMt m x y else .st := by first | rfl | simp only [evSs, evS, evE, evs, evC, evO, evT, evI]
@[simp] theorem z_es0 {Φ : Phi} {env : Env} : evs Φ .nil env = .ok [] := by first | rfl | simp only [evSs, evS, evE, evs, evC, evO, evT, evI]
@[simp] theorem z_es1 {Φ : Phi} {env : Env} {a : E} {r : Es} : evs Φ (.cons a r) env = (evE Φ a env).bind fun x => (evs Φ r env).bind fun l => .ok (x :: l) := by first | rfl | simp only [evSs, evS, evE, evs, evC, evO, evT, evI]
@[simp] theorem z_c1 {Φ : Phi} {env : Env} {c : Cm} {b : E} {x : D} : evC Φ (.one c b) x env = (evE Φ b env).bind fun y => flt (evCm c x y) := by first | rfl | simp only [evSs, evS, evE, evs, evC, evO, evT, evI]
@[simp] theorem z_c2 {Φ : Phi} {env : Env} {c : Cm} {b : E} {r : Cs} {x : D} : evC Φ (.more c b r) x env = (evE Φ b env).bind fun y => (evCm c x y).bind fun k => if k then evC Φ r y env else .ok (.bool false) := by first | rfl | simp only [evSs, evS, evE, evs, evC, evO, evT, evI]
@[simp] theorem z_o0 {Φ : Phi} {env : Env} : evO Φ .no env = .ok none := by first | rfl | simp only [evSs, evS, evE, evs, evC, evO, evT, evI]
@[simp] theorem z_o1 {Φ : Phi} {env : Env} {a : E} : evO Φ (.yes a) env = (evE Φ a env).bind fun x => match x with | .int i => .ok (some i) | _ => .st := by first | rfl | simp only [evSs, evS, evE, evs, evC, evO, evT, evI]
@[simp] theorem z_t0 {Φ : Phi} {env : Env} : evT Φ .no env = .ok true := by first | rfl | simp only [evSs, evS, evE, evs, evC, evO, evT, evI]
@[simp] theorem z_t1 {Φ : Phi} {env : Env} {a : E} : evT Φ (.yes a) env = toB (evE Φ a env) := by first | rfl | simp only [evSs, evS, evE, evs, evC, evO, evT, evI]
@[simp] theorem z_ie {Φ : Phi} {env : Env} {a : E} : evI Φ (.e a) env = (evE Φ a env).bind seqD := by first | rfl | simp only [evSs, evS, evE, evs, evC, evO, evT, evI]
@[simp] theorem z_i1 {Φ : Phi} {env : Env} {a : E} : evI Φ (.r1 a) env = (evE Φ a env).bind fun x => match x with | .int n => if rgOk 0 n then .ok (rgD 0 n) else .st | _ => .st := by first | rfl | simp only [evSs, evS, evE, evs, evC, evO, evT, evI]
@[simp] theorem z_i2 {Φ : Phi} {env : Env} {a b : E} : evI Φ (.r2 a b) env = (evE Φ a env).bind fun x => (evE Φ b env).bind fun y => match x, y with | .int i, .int j => if rgOk i j then .ok (rgD i j) else .st | _, _ => .st := by first | rfl | simp only [evSs, evS, evE, evs, evC, evO, evT, evI]
@[simp] theorem y_toB_b {b : Bool} : toB (.ok (.bool b)) = .ok b := rfl
@[simp] theorem y_rd_o {d : D} : rdS (.o d) = .ok d := rfl
@[simp] theorem y_rd_f {d : D} : rdS (.f d) = .ok d := rfl
@[simp] theorem y_g0 {s : Sl} {r : Env} : geti (s :: r) 0 = s := rfl
@[simp] theorem y_g1 {s : Sl} {r : Env} {n : Nat} : geti (s :: r) (n + 1) = geti r n := rfl
@[simp] theorem y_s0 {s x : Sl} {r : Env} : sets (s :: r) 0 x = x :: r := rfl
@[simp] theorem y_s1 {s x : Sl} {r : Env} {n : Nat} : sets (s :: r) (n + 1) x = s :: sets r n x := rfl
@[simp] theorem y_as1 {i : Nat} {d : D} {env : Env} : asgT (.n i) d env = some (sets env i (.f d)) := rfl
@[simp] theorem y_asT {is : List Nat} {ds : List D} {env : Env} : asgT (.t is) (.tuple ds) env = setsAll env is ds := rfl
@[simp] theorem y_sa0 {env : Env} : setsAll env [] [] = some env := rfl
@[simp] theorem y_sa1 {env : Env} {i : Nat} {is : List Nat} {d : D} {ds : List D} : setsAll env (i :: is) (d :: ds) = setsAll (sets env i (.f d)) is ds := rfl
@[simp] theorem y_fl {b : Bool} : flt (.ok b) = .ok (.bool b) := rfl
@[simp] theorem y_nr {b : Bool} : notR (.ok b) = .ok (!b) := rfl
@[simp] theorem y_lti {i j : Int} : ltD (.int i) (.int j) = .ok (decide (i < j)) := rfl
@[simp] theorem y_cm1 {a b : D} : evCm .eq a b = eqD a b := rfl
@[simp] theorem y_cm2 {a b : D} : evCm .ne a b = notR (eqD a b) := rfl
@[simp] theorem y_cm3 {a b : D} : evCm .lt a b = ltD a b := rfl
@[simp] theorem y_cm4 {a b : D} : evCm .le a b = notR (ltD b a) := rfl
@[simp] theorem y_cm5 {a b : D} : evCm .gt a b = ltD b a := rfl
@[simp] theorem y_cm6 {a b : D} : evCm .ge a b = notR (ltD a b) := rfl
@[simp] theorem y_cm7 {a b : D} : evCm .in_ a b = inD a b := rfl
@[simp] theorem y_cm8 {a b : D} : evCm .nin a b = notR (inD a b) := rfl
@[simp] theorem y_oa {i j : Int} : evOp .add (.int i) (.int j) = .ok (.int (i + j)) := rfl
@[simp] theorem y_osb {i j : Int} : evOp .sub (.int i) (.int j) = .ok (.int (i - j)) := rfl
@[simp] theorem y_om {i j : Int} : evOp .mul (.int i) (.int j) = if mulOk i j then .ok (.int (i * j)) else .st := rfl
@[simp] theorem y_od {i j : Int} : evOp .div (.int i) (.int j) = if 0 < j ∧ j.natAbs.log2 < 9000 then .ok (.int (i / j)) else .st := rfl
@[simp] theorem y_omd {i j : Int} : evOp .mod (.int i) (.int j) = if 0 < j then .ok (.int (i % j)) else .st := rfl
@[simp] theorem y_bl1 {l : List D} : evBi .len [.list l] = .ok (.int l.length) := rfl
@[simp] theorem y_bl2 {l : List D} : evBi .len [.tuple l] = .ok (.int l.length) := rfl
@[simp] theorem y_bi {i : Int} : evBi .int [.int i] = .ok (.int i) := rfl
@[simp] theorem y_bn {i : Int} : evBi .neg [.int i] = .ok (.int (-i)) := rfl
@[simp] theorem y_bt {l : List D} : evBi .tuple [.list l] = .ok (.tuple l) := rfl
@[simp] theorem y_bt2 {l : List D} : evBi .tuple [.tuple l] = .ok (.tuple l) := rfl
@[simp] theorem y_bls {l : List D} : evBi .list [.list l] = .ok (.list l) := rfl
@[simp] theorem y_bls2 {l : List D} : evBi .list [.tuple l] = .ok (.list l) := rfl
@[simp] theorem y_sq1 {l : List D} : seqD (.list l) = .ok l := rfl
@[simp] theorem y_sq2 {l : List D} : seqD (.tuple l) = .ok l := rfl
@[simp] theorem y_ixl {l : List D} {i : Int} : evIx (.list l) (.int i) = getAt l i := rfl
@[simp] theorem y_ixt {l : List D} {i : Int} : evIx (.tuple l) (.int i) = getAt l i := rfl
@[simp] theorem y_rgn {e : E} : I.val (.e e) = some e := rfl
/-- is the loop's body left? -/
def Out.stop : Out → Bool
  | .nx _ => false
  | .bk _ => false
  | _ => true
theorem eqv_int (a b : Int) : PyData.eqv (.int a) (.int b) = (a == b) := by simp [PyData.eqv]
theorem asInts_ok : ∀ ns : List Int, asInts (ns.map .int) = some ns
  | [] => rfl
  | n :: ns => by simp [asInts, asInts_ok ns]
theorem flatAll_int : ∀ ns : List Int, flatAll (ns.map .int) = true
  | [] => rfl
  | n :: ns => by simp [flatAll, flat, flatAll_int ns]
@[simp] theorem put_int {e : E} {i : Nat} {n : Int} {env : Env} : putS e i (.int n) env = sets env i (.f (.int n)) := by unfold putS; cases e.fresh <;> rfl
@[simp] theorem put_bool {e : E} {i : Nat} {n : Bool} {env : Env} : putS e i (.bool n) env = sets env i (.f (.bool n)) := by unfold putS; cases e.fresh <;> rfl
@[simp] theorem put_none {e : E} {i : Nat} {env : Env} : putS e i .none env = sets env i (.f .none) := by unfold putS; cases e.fresh <;> rfl
@[simp] theorem put_str {e : E} {i : Nat} {n : Str} {env : Env} : putS e i (.str n) env = sets env i (.f (.str n)) := by unfold putS; cases e.fresh <;> rfl
theorem put_tup {e : E} {i : Nat} {l : List D} {env : Env} (h : flatAll l = true) : putS e i (.tuple l) env = sets env i (.f (.tuple l)) := by
  unfold putS
  cases e.fresh <;> simp [shr, flat, h]
@[simp] theorem put_tupI {e : E} {i : Nat} {l : List Int} {env : Env} : putS e i (.tuple (l.map .int)) env = sets env i (.f (.tuple (l.map .int))) := put_tup (flatAll_int l)
theorem mulOk_r {i j : Int} (h1 : -(2 ^ 64) < j) (h2 : j < 2 ^ 64) : mulOk i j = true := by
  unfold mulOk
  rw [Nat.ble_eq_true_of_le (show j.natAbs ≤ 18446744073709551615 by omega), Bool.or_true, Bool.true_or]
theorem log2_small {j : Nat} (h : j < 2 ^ 64) : j.log2 < 9000 := by
  by_cases h0 : j = 0
  · subst h0; decide
  · have := (Nat.log2_lt h0).mpr h
    omega
theorem z_lc {Φ : Phi} {env : Env} {own : List Nat} {t : T} {it : I} {c : Oe} {elt : E} : evE Φ (.lc own t it c elt) env = (evI Φ it env).bind fun ds => (compL (fun d => match asgT t d (wipeS env own) with
    | none => .st
    | some env1 => match evT Φ c env1 with
      | .ok true => match evE Φ elt env1 with
        | .ok x => .ok (some x)
        | _ => .st
      | .ok false => .ok none
      | _ => .st) ds).bind fun l => .ok (.list l) := by first | (simp only [evE]; done) | (simp only [evE]; rfl)
@[simp] theorem z_wipe {env : Env} : wipeS env [] = env := rfl
@[simp] theorem z_wipe1 {env : Env} {i : Nat} {r : List Nat} : wipeS env (i :: r) = sets (wipeS env r) i .u := rfl
theorem iota_mem {x : Int} : ∀ {n : Nat} {lo : Int}, x ∈ iota lo n ↔ lo ≤ x ∧ x < lo + n
  | 0, lo => by simp only [iota, List.not_mem_nil, false_iff]; omega
  | n + 1, lo => by
    simp only [iota, List.mem_cons, iota_mem (n := n) (lo := lo + 1)]
    omega
theorem rgOk_ok {a b : Int} (h1 : -1000000 ≤ a) (h2 : a ≤ 1000000) (h3 : -1000000 ≤ b) (h4 : b ≤ 1000000) : rgOk a b = true := by
  unfold rgOk
  rw [Nat.ble_eq_true_of_le (show a.natAbs ≤ 1000000000000000000 by omega), Nat.ble_eq_true_of_le (show b.natAbs ≤ 1000000000000000000 by omega), Nat.ble_eq_true_of_le (show (b - a).toNat ≤ 10000000 by omega)]
  rfl
@[simp] theorem put_nil {i : Nat} {env : Env} : putS (.lst .nil) i (.list []) env = sets env i (.o (.list [])) := rfl
@[simp] theorem eqD_int {a b : Int} : eqD (.int a) (.int b) = .ok (a == b) := by simp [eqD, scalD, eqv_int]
theorem iota_sorted : ∀ (n : Nat) (lo : Int), (iota lo n).Pairwise (· < ·)
  | 0, _ => .nil
  | n + 1, lo => .cons (fun x h => by have := iota_mem (x := x).mp h; omega) (iota_sorted n (lo + 1))
theorem iota_len (n : Nat) (lo : Int) : (iota lo n).length = n := by
  induction n generalizing lo with
  | zero => rfl
  | succ n ih => simp [iota, ih]
theorem eraseIdx_perm {α : Type} : ∀ (l : List α) (i : Nat) (h : i < l.length), (l[i] :: l.eraseIdx i).Perm l
  | x :: l, 0, _ => by simp
  | x :: l, i + 1, h => by
    have e := eraseIdx_perm l i (by simpa using h)
    simp only [List.getElem_cons_succ, List.eraseIdx_cons_succ]
    exact (List.Perm.swap _ _ _).trans (e.cons x)
end PC
set_option Elab.async false
set_option linter.all false
namespace PC
open PySem
/-- what the typed side tells, the evaluator tells -/
def Rf {α β : Type} (e : α → β) (r : R β) (t : R α) : Prop := match t with
  | .ok a => r = .ok (e a)
  | .ex c => r = .ex c
  | .st => True
section
variable {α β α' β' : Type} {e : α → β} {e' : α' → β'} {r : R β} {t : R α}
theorem Rf.ok {a : α} (h : r = .ok (e a)) : Rf e r (.ok a) := h
theorem Rf.none : Rf e r .st := trivial
theorem Rf.bind {f : β → R β'} {g : α → R α'} (h : Rf e r t) (k : ∀ a, Rf e' (f (e a)) (g a)) : Rf e' (r.bind f) (t.bind g) := by
  cases t with
  | ok a => cases (show r = .ok (e a) from h); exact k a
  | ex c => cases (show r = .ex c from h); rfl
  | st => trivial
theorem Rf.eq {r' : R β} (h : r = r') (k : Rf e r' t) : Rf e r t := h ▸ k
theorem Rf.to {t' : R α} (h : t = t') (k : Rf e r t) : Rf e r t' := h ▸ k
theorem Rf.val {a : α} (h : Rf e r t) (q : t = .ok a) : r = .ok (e a) := by rw [q] at h; exact h
end
abbrev eI : Int → D := PyData.int
abbrev eB : Bool → D := PyData.bool
abbrev eL {α : Type} (e : α → D) (l : List α) : D := .list (l.map e)
abbrev eT {α : Type} (e : α → D) (l : List α) : D := .tuple (l.map e)
abbrev eP {α β : Type} (e : α → D) (e' : β → D) (p : α × β) : D := .tuple [e p.1, e' p.2]
abbrev eP3 {α β γ : Type} (e : α → D) (e' : β → D) (e'' : γ → D) (p : α × β × γ) : D := .tuple [e p.1, e' p.2.1, e'' p.2.2]
def eSq {α : Type} (b : Bool) (e : α → D) (l : List α) : D := match b with
  | true => .tuple (l.map e)
  | false => .list (l.map e)
/-- trees -/
inductive Tr where
  | leaf (i : Int)
  | node (w : Bool) (ps : List Tr)
def wS : Bool → Str
  | true => "any"
  | false => "row"
abbrev eW (w : Bool) : D := .str (wS w)
mutual
def eTr : Tr → D
  | .leaf i => .int i
  | .node w ps => .tuple [.str (wS w), .tuple (eTrs ps)]
def eTrs : List Tr → List D
  | [] => []
  | t :: r => eTr t :: eTrs r
end
theorem eTrs_map : ∀ l : List Tr, eTrs l = l.map eTr
  | [] => rfl
  | t :: r => by rw [eTrs, eTrs_map r]; rfl
/-- values without lists -/
inductive U where
  | n | b (b : Bool) | i (i : Int) | s (s : Str) | t (l : List U)
theorem flI (i : Int) : flat (eI i) = true := rfl
theorem flB (i : Bool) : flat (eB i) = true := rfl
theorem flW (i : Bool) : flat (eW i) = true := rfl
theorem flAll {α : Type} {e : α → D} (h : ∀ a, flat (e a) = true) : ∀ l : List α, flatAll (l.map e) = true
  | [] => rfl
  | a :: l => by
    show (flat (e a) && flatAll (l.map e)) = true
    rw [h a, flAll h l]; rfl
theorem flT {α : Type} {e : α → D} (h : ∀ a, flat (e a) = true) (l : List α) : flat (eT e l) = true := flAll h l
mutual
theorem flTr : ∀ t : Tr, flat (eTr t) = true
  | .leaf i => rfl
  | .node w ps => by
    show (true && (flatAll (eTrs ps) && true)) = true
    rw [flTrs ps]; rfl
theorem flTrs : ∀ l : List Tr, flatAll (eTrs l) = true
  | [] => rfl
  | t :: r => by
    show (flat (eTr t) && flatAll (eTrs r)) = true
    rw [flTr t, flTrs r]; rfl
end
def atL {α : Type} (l : List α) (i : Int) : R α := match L2.atI l i with
  | some a => .ok a
  | none => .st
def cutL {α : Type} (l : List α) (lo hi : Option Int) : List α := (l.drop (HT.sIx l.length 0 lo)).take (HT.sIx l.length l.length hi - HT.sIx l.length 0 lo)
def tdiv (i j : Int) : R Int := if 0 < j ∧ j.natAbs.log2 < 9000 then .ok (i / j) else .st
def tmod (i j : Int) : R Int := if 0 < j then .ok (i % j) else .st
def tmul (i j : Int) : R Int := if mulOk i j then .ok (i * j) else .st
def tpow (i j : Int) : R Int := if 0 ≤ j ∧ j ≤ 1000000 ∧ i.natAbs < 2 ^ 64 then .ok (i ^ j.toNat) else .st
def rng (a b : Int) : R (List Int) := if rgOk a b then .ok (iota a (b - a).toNat) else .st
def catL {α : Type} (a b : List α) : R (List α) := if a.length + b.length ≤ sizeLine then .ok (a ++ b) else .st
def Tr.parts : Tr → R (List Tr)
  | .leaf _ => .st
  | .node _ ps => .ok ps
def Tr.word : Tr → R Bool
  | .leaf _ => .st
  | .node w _ => .ok w
def Tr.thing : Tr → R Int
  | .leaf i => .ok i
  | .node _ _ => .st
def Tr.isLeaf : Tr → Bool
  | .leaf _ => true
  | .node _ _ => false
def compR {α β : Type} (p : α → R Bool) (g : α → R β) : List α → R (List β)
  | [] => .ok []
  | a :: r => match p a with
    | .ok true => match g a with
      | .ok x => match compR p g r with
        | .ok l => .ok (x :: l)
        | _ => .st
      | _ => .st
    | .ok false => compR p g r
    | _ => .st
def mapR {α β : Type} (g : α → R β) : List α → R (List β)
  | [] => .ok []
  | a :: r => match g a with
    | .ok x => match mapR g r with
      | .ok l => .ok (x :: l)
      | _ => .st
    | _ => .st
inductive Fl (σ ρ : Type) where
  | nx (s : σ) | bk (s : σ) | rt (v : ρ) | ex (c : Str) | st
section
variable {α β σ σ' ρ : Type}
def letR (t : R α) (k : α → Fl σ ρ) : Fl σ ρ := match t with
  | .ok a => k a
  | .ex c => .ex c
  | .st => .st
def Fl.seq (t : Fl σ ρ) (k : σ → Fl σ' ρ) : Fl σ' ρ := match t with
  | .nx s => k s
  | .bk _ => .st
  | .rt v => .rt v
  | .ex c => .ex c
  | .st => .st
def forL (l : List α) (s : σ) (f : α → σ → Fl σ ρ) : Fl σ ρ := match l with
  | [] => .nx s
  | a :: r => match f a s with
    | .nx s' => forL r s' f
    | .bk s' => .nx s'
    | o => o
def whlL (c : σ → R Bool) (f : σ → Fl σ ρ) : Nat → σ → Fl σ ρ
  | 0, _ => .st
  | n + 1, s => match c s with
    | .ok true => match f s with
      | .nx s' => whlL c f n s'
      | .bk s' => .nx s'
      | o => o
    | .ok false => .nx s
    | .ex c => .ex c
    | .st => .st
def Fl.run (t : Fl Unit ρ) (d : R ρ) : R ρ := match t with
  | .nx _ => d
  | .bk _ => .st
  | .rt v => .ok v
  | .ex c => .ex c
  | .st => .st
def appL (l : List α) (a : α) (k : List α → Fl σ ρ) : Fl σ ρ := if l.length < cap then k (l ++ [a]) else .st
def extL (l m : List α) (k : List α → Fl σ ρ) : Fl σ ρ := if l.length + m.length < cap then k (l ++ m) else .st
/-- a try whose handler is for c -/
def tryF (t : Fl σ ρ) (ks : List Str) (c : Str) (h : Str → Fl σ ρ) : Fl σ ρ := match t with
  | .ex k => if ks.contains k then (if subC k c then (match h k with | .ex _ => .st | o => o) else .ex k) else .st
  | o => o
@[simp] theorem letR_ok {a : α} {k : α → Fl σ ρ} : letR (.ok a) k = k a := rfl
@[simp] theorem letR_ex {c : Str} {k : α → Fl σ ρ} : letR (.ex c) k = .ex c := rfl
@[simp] theorem letR_st {k : α → Fl σ ρ} : letR .st k = .st := rfl
@[simp] theorem seq_nx {s : σ} {k : σ → Fl σ' ρ} : (Fl.nx s : Fl σ ρ).seq k = k s := rfl
@[simp] theorem seq_rt {v : ρ} {k : σ → Fl σ' ρ} : (Fl.rt v : Fl σ ρ).seq k = .rt v := rfl
@[simp] theorem seq_ex {c : Str} {k : σ → Fl σ' ρ} : (Fl.ex c : Fl σ ρ).seq k = .ex c := rfl
@[simp] theorem seq_st {k : σ → Fl σ' ρ} : (Fl.st : Fl σ ρ).seq k = .st := rfl
@[simp] theorem run_nx {s : Unit} {d : R ρ} : (Fl.nx s).run d = d := rfl
@[simp] theorem run_rt {v : ρ} {d : R ρ} : (Fl.rt v).run d = .ok v := rfl
@[simp] theorem run_ex {c : Str} {d : R ρ} : (Fl.ex c).run d = .ex c := rfl
@[simp] theorem run_st {d : R ρ} : (Fl.st).run d = .st := rfl
@[simp] theorem forL_nil {s : σ} {f : α → σ → Fl σ ρ} : forL [] s f = .nx s := rfl
theorem forL_cons {a : α} {l : List α} {s : σ} {f : α → σ → Fl σ ρ} : forL (a :: l) s f = (match f a s with | .nx s' => forL l s' f | .bk s' => .nx s' | o => o) := rfl
end
section
variable {σ σ' ρ J J' α β : Type} {er : ρ → D} {X : Env → Prop} {mk : σ → J → Env} {Φ : Phi} {fu : Nat}
def Sim (er : ρ → D) (X : Env → Prop) (mk : σ → J → Env) (o : Out) (t : Fl σ ρ) : Prop := match t with
  | .nx s => ∃ j, o = .nx (mk s j)
  | .bk s => ∃ j, o = .bk (mk s j)
  | .rt v => o = .rt (er v)
  | .ex c => ∃ env, o = .ex c env ∧ X env
  | .st => True
theorem Sim.nil {s : σ} {j : J} {env : Env} (h : env = mk s j) : Sim er X mk (evSs Φ fu [] env) (.nx s) := ⟨j, by rw [z_ss0, h]⟩
theorem Sim.onR {r : R D} {e : α → D} {t : R α} {env : Env} {k : D → Out} {k' : α → Fl σ ρ} (h : Rf e r t) (hx : X env) (hk : ∀ a, Sim er X mk (k (e a)) (k' a)) : Sim er X mk (onR r env k) (letR t k') := by
  cases t with
  | ok a => cases (show r = .ok (e a) from h); exact hk a
  | ex c => cases (show r = .ex c from h); exact ⟨env, rfl, hx⟩
  | st => trivial
theorem Sim.onR' {r : R β} {e : α → β} {t : R α} {env : Env} {k : β → Out} {k' : α → Fl σ ρ} (h : Rf e r t) (hx : X env) (hk : ∀ a, Sim er X mk (k (e a)) (k' a)) : Sim er X mk (PC.onR r env k) (letR t k') := by
  cases t with
  | ok a => cases (show r = .ok (e a) from h); exact hk a
  | ex c => cases (show r = .ex c from h); exact ⟨env, rfl, hx⟩
  | st => trivial
/-- a statement that goes on, or ends -/
def Out.go (o : Out) (f : Env → Out) : Out := match o with
  | .nx env => f env
  | o => o
theorem z_go {env : Env} {s : S} {r : List S} : evSs Φ fu (s :: r) env = (evS Φ fu s env).go (evSs Φ fu r) := z_ss1
@[simp] theorem go_nx {env : Env} {f : Env → Out} : (Out.nx env).go f = f env := rfl
theorem onR_cons {α : Type} {r : R α} {env : Env} {k : α → Out} {f : Env → Out} : (onR r env k).go f = onR r env fun a => (k a).go f := by
  cases r <;> rfl
theorem put_flat {e : E} {i : Nat} {d : D} {env : Env} (h : flat d = true) : putS e i d env = sets env i (.f d) := by
  unfold putS
  split
  · cases h
  · cases h
  · unfold shr; rw [if_pos h]
theorem put_own {e : E} {i : Nat} {ds : List D} {env : Env} (h : e.fresh = true) (hf : flatAll ds = true) : putS e i (.list ds) env = sets env i (.o (.list ds)) := by
  unfold putS
  rw [h]
  simp only
  rw [if_pos hf]
theorem put_share {e : E} {i : Nat} {ds : List D} {env : Env} (h : e.fresh = false) : putS e i (.list ds) env = sets (frzS e.vars 0 env) i (.f (.list ds)) := by
  unfold putS
  rw [h]
  unfold shr
  rfl
section
variable {i : Nat} {e : E} {r : List S} {env : Env} {enc : α → D} {t : R α} {k : α → Fl σ ρ}
theorem Sim.asgF (hfl : ∀ a, flat (enc a) = true) (env' : α → Env) (h : Rf enc (evE Φ e env) t) (hx : X env) (he : ∀ a, sets env i (.f (enc a)) = env' a) (hk : ∀ a, Sim er X mk (evSs Φ fu r (env' a)) (k a)) : Sim er X mk (evSs Φ fu (.asg (.n i) e :: r) env) (letR t k) := by
  rw [z_go, z_asg1, onR_cons]
  refine Sim.onR h hx fun a => ?_
  simp only [put_flat (hfl a), he a]
  exact hk a
theorem Sim.asgO {e' : β → D} {t : R (List β)} {k : List β → Fl σ ρ} (hfl : ∀ a, flat (e' a) = true) (hfr : e.fresh = true) (env' : List β → Env) (h : Rf (eL e') (evE Φ e env) t) (hx : X env) (he : ∀ a, sets env i (.o (eL e' a)) = env' a) (hk : ∀ a, Sim er X mk (evSs Φ fu r (env' a)) (k a)) : Sim er X mk (evSs Φ fu (.asg (.n i) e :: r) env) (letR t k) := by
  rw [z_go, z_asg1, onR_cons]
  refine Sim.onR h hx fun a => ?_
  simp only [put_own hfr (flAll hfl a), he a]
  exact hk a
theorem Sim.asgL {e' : β → D} {t : R (List β)} {k : List β → Fl σ ρ} (hfr : e.fresh = false) (env' : List β → Env) (h : Rf (eL e') (evE Φ e env) t) (hx : X env) (he : ∀ a, sets (frzS e.vars 0 env) i (.f (eL e' a)) = env' a) (hk : ∀ a, Sim er X mk (evSs Φ fu r (env' a)) (k a)) : Sim er X mk (evSs Φ fu (.asg (.n i) e :: r) env) (letR t k) := by
  rw [z_go, z_asg1, onR_cons]
  refine Sim.onR h hx fun a => ?_
  simp only [put_share hfr, he a]
  exact hk a
theorem Sim.exp (h : Rf enc (evE Φ e env) t) (hx : X env) (hk : ∀ a, Sim er X mk (evSs Φ fu r env) (k a)) : Sim er X mk (evSs Φ fu (.exp e :: r) env) (letR t k) := by
  rw [z_go, z_exp, onR_cons]
  exact Sim.onR h hx hk
theorem Sim.ret {t : R ρ} {σ J : Type} {mk : σ → J → Env} (h : Rf er (evE Φ e env) t) (hx : X env) : Sim er X mk (evSs Φ fu (.ret e :: r) env) (letR t fun v => .rt v) := by
  rw [z_go, z_ret, onR_cons]
  exact Sim.onR h hx fun a => rfl
theorem Sim.retN {v : ρ} {σ J : Type} {mk : σ → J → Env} (h : er v = .none) : Sim er X mk (evSs Φ fu (.retN :: r) env) (.rt v) := by
  rw [z_go, z_retN, ← h]
  rfl
theorem Sim.raise {c : Str} {σ J : Type} {mk : σ → J → Env} (hx : X env) : Sim er X mk (evSs Φ fu (.raise c :: r) env) (.ex c) := by
  rw [z_go, z_raise]
  exact ⟨env, rfl, hx⟩
theorem Sim.brk {s : σ} {j : J} (h : env = mk s j) : Sim er X mk (evSs Φ fu (.brk :: r) env) (.bk s) := by
  rw [z_go, z_brk]
  exact ⟨j, by rw [h]; rfl⟩
theorem Sim.pas {t : Fl σ ρ} (h : Sim er X mk (evSs Φ fu r env) t) : Sim er X mk (evSs Φ fu (.pas :: r) env) t := by
  rw [z_go, z_pas]
  exact h
/-- append -/
theorem Sim.app {e' : β → D} {l : List β} {t : R β} {k : List β → Fl σ ρ} (hfl : ∀ a, flat (e' a) = true) (env' : List β → Env) (h : Rf e' (evE Φ e env) t) (hx : X env) (hg : geti env i = .o (eL e' l)) (he : ∀ a, sets env i (.o (eL e' a)) = env' a) (hk : ∀ a, Sim er X mk (evSs Φ fu r (env' a)) (k a)) :
    Sim er X mk (evSs Φ fu (.app i e :: r) env) (letR t fun a => appL l a k) := by
  rw [z_go]
  simp only [evS, hg, onR_cons]
  refine Sim.onR h hx fun a => ?_
  simp only [shr, if_pos (hfl a), hg]
  unfold appL
  by_cases c : l.length < cap
  · rw [if_pos c, if_pos (by rw [List.length_map]; exact c)]
    have e1 : sets env i (.o (.list (l.map e' ++ [e' a]))) = env' (l ++ [a]) := by rw [← he]; simp [eL]
    simp only [e1]
    exact hk _
  · rw [if_neg c]; trivial
/-- extend -/
theorem Sim.ext {e' : β → D} {l : List β} {t : R (List β)} {k : List β → Fl σ ρ} {b : Bool} (hfl : ∀ a, flat (e' a) = true) (env' : List β → Env) (h : Rf (eSq b e') (evE Φ e env) t) (hx : X env) (hg : geti env i = .o (eL e' l)) (he : ∀ a, sets env i (.o (eL e' a)) = env' a) (hk : ∀ a, Sim er X mk (evSs Φ fu r (env' a)) (k a)) :
    Sim er X mk (evSs Φ fu (.ext i e :: r) env) (letR t fun m => extL l m k) := by
  rw [z_go]
  simp only [evS, hg, onR_cons]
  refine Sim.onR h hx fun m => ?_
  have e0 : lstD (eSq b e' m) = some (m.map e') := by cases b <;> rfl
  simp only [e0, if_pos (flAll hfl m), hg]
  unfold extL
  by_cases c : l.length + m.length < cap
  · rw [if_pos c, if_pos (by rw [List.length_map, List.length_map]; exact c)]
    have e1 : sets env i (.o (.list (l.map e' ++ m.map e'))) = env' (l ++ m) := by rw [← he]; simp [eL]
    simp only [e1]
    exact hk _
  · rw [if_neg c]; trivial
theorem Sim.rvs {e' : β → D} {l : List β} {t : Fl σ ρ} (env' : Env) (hg : geti env i = .o (eL e' l)) (he : sets env i (.o (eL e' l.reverse)) = env') (hk : Sim er X mk (evSs Φ fu r env') t) : Sim er X mk (evSs Φ fu (.rvs i :: r) env) t := by
  rw [z_go]
  simp only [evS, hg]
  have e1 : (l.map e').reverse = l.reverse.map e' := by simp
  rw [e1]
  simp only [he]
  exact hk
end
mutual
def endS : S → Bool
  | .ret _ | .retN | .raise _ | .brk => true
  | .ite _ a b => endSs a && endSs b
  | .try_ b _ _ _ s => endSs b && endSs s
  | _ => false
def endSs : List S → Bool
  | [] => false
  | s :: r => endS s || endSs r
end
theorem onR_nx {α : Type} {r : R α} {env env' : Env} {k : α → Out} (h : onR r env k = .nx env') : ∃ a, k a = .nx env' := by
  cases r with
  | ok a => exact ⟨a, h⟩
  | ex c => cases h
  | st => cases h
mutual
theorem endS_ok : ∀ (s : S) (env env' : Env), endS s = true → evS Φ fu s env ≠ .nx env'
  | .ret e, env, env', _, h => by rw [z_ret] at h; obtain ⟨a, h⟩ := onR_nx h; cases h
  | .retN, env, env', _, h => by rw [z_retN] at h; cases h
  | .raise c, env, env', _, h => by rw [z_raise] at h; cases h
  | .brk, env, env', _, h => by rw [z_brk] at h; cases h
  | .ite c a b, env, env', q, h => by
    rw [z_ite] at h
    obtain ⟨k, h⟩ := onR_nx h
    simp only [endS, Bool.and_eq_true] at q
    cases k with
    | true => exact endSs_ok a env env' q.1 h
    | false => exact endSs_ok b env env' q.2 h
  | .try_ b ks c n s, env, env', q, h => by
    simp only [endS, Bool.and_eq_true] at q
    simp only [evS] at h
    cases e1 : evSs Φ fu b env with
    | nx env1 => exact endSs_ok b env env1 q.1 e1
    | bk _ => rw [e1] at h; cases h
    | rt _ => rw [e1] at h; cases h
    | st => rw [e1] at h; cases h
    | ex k env1 =>
      rw [e1] at h
      simp only at h
      split at h
      · split at h
        · cases n with
          | none =>
            simp only at h
            cases e2 : evSs Φ fu s env1 with
            | nx env2 => exact endSs_ok s env1 env2 q.2 e2
            | bk _ => rw [e2] at h; cases h
            | rt _ => rw [e2] at h; cases h
            | st => rw [e2] at h; cases h
            | ex _ _ => rw [e2] at h; cases h
          | some i =>
            simp only at h
            cases e2 : evSs Φ fu s (sets env1 i (.x k)) with
            | nx env2 => exact endSs_ok s _ env2 q.2 e2
            | bk _ => rw [e2] at h; cases h
            | rt _ => rw [e2] at h; cases h
            | st => rw [e2] at h; cases h
            | ex _ _ => rw [e2] at h; cases h
        · cases h
      · cases h
  | .asg _ _, _, _, q, _ => by simp [endS] at q
  | .par _ _ _ _, _, _, q, _ => by simp [endS] at q
  | .aug _ _ _, _, _, q, _ => by simp [endS] at q
  | .app _ _, _, _, q, _ => by simp [endS] at q
  | .appPop _ _ _, _, _, q, _ => by simp [endS] at q
  | .popTo _ _ _, _, _, q, _ => by simp [endS] at q
  | .ext _ _, _, _, q, _ => by simp [endS] at q
  | .rvs _, _, _, q, _ => by simp [endS] at q
  | .srt _, _, _, q, _ => by simp [endS] at q
  | .ins _ _ _, _, _, q, _ => by simp [endS] at q
  | .rem _ _, _, _, q, _ => by simp [endS] at q
  | .setIx _ _ _, _, _, q, _ => by simp [endS] at q
  | .nat _ _, _, _, q, _ => by simp [endS] at q
  | .exp _, _, _, q, _ => by simp [endS] at q
  | .for_ _ _ _, _, _, q, _ => by simp [endS] at q
  | .whl _ _, _, _, q, _ => by simp [endS] at q
  | .pas, _, _, q, _ => by simp [endS] at q
theorem endSs_ok : ∀ (l : List S) (env env' : Env), endSs l = true → evSs Φ fu l env ≠ .nx env'
  | [], _, _, q, _ => by simp [endSs] at q
  | s :: r, env, env', q, h => by
    simp only [endSs, Bool.or_eq_true] at q
    rw [z_ss1] at h
    cases e : evS Φ fu s env with
    | nx env1 =>
      rw [e] at h
      rcases q with q | q
      · exact endS_ok s env env1 q e
      · exact endSs_ok r env1 env' q h
    | bk _ => rw [e] at h; cases h
    | rt _ => rw [e] at h; cases h
    | st => rw [e] at h; cases h
    | ex _ _ => rw [e] at h; cases h
end
theorem evSs_append : ∀ (a b : List S) (env : Env), evSs Φ fu (a ++ b) env = (evSs Φ fu a env).go (evSs Φ fu b)
  | [], b, env => by rw [z_ss0]; rfl
  | s :: a, b, env => by
    show evSs Φ fu (s :: (a ++ b)) env = _
    rw [z_go, z_go]
    cases e : evS Φ fu s env with
    | nx env1 => exact evSs_append a b env1
    | _ => rfl
def cnd {σ ρ : Type} (c : R Bool) (a b : Fl σ ρ) : Fl σ ρ := letR c fun c => if c then a else b
@[simp] theorem cnd_ok {σ ρ : Type} {c : Bool} {a b : Fl σ ρ} : cnd (.ok c) a b = if c then a else b := rfl
@[simp] theorem cnd_st {σ ρ : Type} {a b : Fl σ ρ} : cnd .st a b = .st := rfl
@[simp] theorem cnd_ex {σ ρ : Type} {a b : Fl σ ρ} {c : Str} : cnd (.ex c) a b = .ex c := rfl
theorem Rf.toB {r : R D} {t : R Bool} (h : Rf eB r t) : Rf (fun b : Bool => b) (toB r) t := by
  cases t with
  | ok a => cases (show r = .ok (.bool a) from h); rfl
  | ex c => cases (show r = .ex c from h); rfl
  | st => trivial
section
variable {c : E} {a b r : List S} {env : Env} {tc : R Bool} {A B : Fl σ ρ}
/-- the first branch ends -/
theorem Sim.ite1 (hen : endSs a = true) (h : Rf eB (evE Φ c env) tc) (hx : X env) (hA : Sim er X mk (evSs Φ fu a env) A) (hB : Sim er X mk (evSs Φ fu (b ++ r) env) B) : Sim er X mk (evSs Φ fu (.ite c a b :: r) env) (cnd tc A B) := by
  rw [z_go, z_ite, onR_cons]
  refine Sim.onR' h.toB hx fun k => ?_
  cases k with
  | true =>
    simp only [if_true]
    cases e : evSs Φ fu a env with
    | nx env1 => exact absurd e (endSs_ok a env env1 hen)
    | _ => rw [e] at hA; exact hA
  | false =>
    rw [evSs_append] at hB
    exact hB
theorem Sim.after {mk' : σ' → J' → Env} {o : Out} {t : Fl σ' ρ} {K : σ' → Fl σ ρ} (h : Sim er X mk' o t) (hr : ∀ s j, Sim er X mk (evSs Φ fu r (mk' s j)) (K s)) : Sim er X mk (o.go (evSs Φ fu r)) (t.seq K) := by
  cases t with
  | nx s => obtain ⟨j, rfl⟩ := h; exact hr s j
  | bk s => trivial
  | rt v => cases (show o = _ from h); rfl
  | ex c => obtain ⟨env, rfl, q⟩ := h; exact ⟨env, rfl, q⟩
  | st => trivial
/-- both branches go on -/
theorem Sim.iteJ {mk' : σ' → J' → Env} {A B : Fl σ' ρ} {K : σ' → Fl σ ρ} (h : Rf eB (evE Φ c env) tc) (hx : X env) (hA : Sim er X mk' (evSs Φ fu a env) A) (hB : Sim er X mk' (evSs Φ fu b env) B) (hr : ∀ s j, Sim er X mk (evSs Φ fu r (mk' s j)) (K s)) :
    Sim er X mk (evSs Φ fu (.ite c a b :: r) env) ((cnd tc A B).seq K) := by
  rw [z_go, z_ite]
  refine Sim.after (mk' := mk') (Sim.onR' h.toB hx fun k => ?_) hr
  cases k with
  | true => exact hA
  | false => exact hB
end
def frzE (it : I) (env : Env) : Env := match it.val with
  | some a => frzS a.vars 0 env
  | none => env
theorem Sim.loop {e : α → D} {tt : T} {b : List S} {mkL : σ → J → Env} {body : α → σ → Fl σ ρ} (env1 : α → σ → J → Env) (ha : ∀ a s j, PC.asgT tt (e a) (mkL s j) = some (env1 a s j)) (hb : ∀ a s j, Sim er X mkL (evSs Φ fu b (env1 a s j)) (body a s)) :
    ∀ (l : List α) s j, Sim er X mkL (evFor (evSs Φ fu b) tt (l.map e) (mkL s j)) (match forL l s body with | .bk s => .nx s | o => o)
  | [], s, j => ⟨j, rfl⟩
  | a :: l, s, j => by
    rw [forL_cons, List.map_cons]
    unfold evFor
    rw [ha]
    have h := hb a s j
    cases q : body a s with
    | nx s' =>
      rw [q] at h
      obtain ⟨j', h⟩ := h
      simp only [h]
      exact Sim.loop env1 ha hb l s' j'
    | bk s' =>
      rw [q] at h
      obtain ⟨j', h⟩ := h
      simp only [h]
      exact ⟨j', rfl⟩
    | rt v => rw [q] at h; simp only [show _ = _ from h]; rfl
    | ex c => rw [q] at h; obtain ⟨env, h, hx⟩ := h; simp only [h]; exact ⟨env, rfl, hx⟩
    | st => trivial
theorem forL_nobk {l : List α} {s : σ} {f : α → σ → Fl σ ρ} : (match forL l s f with | .bk s => .nx s | o => o) = forL l s f := by
  induction l generalizing s with
  | nil => rfl
  | cons a l ih =>
    rw [forL_cons]
    cases f a s with
    | nx s' => exact ih
    | _ => rfl
theorem Sim.for {e : α → D} {tt : T} {it : I} {b r : List S} {env : Env} {t : R (List α)} {body : α → σ' → Fl σ' ρ} {K : σ' → Fl σ ρ} (mkL : σ' → J' → Env) (env1 : α → σ' → J' → Env) (s0 : σ') (j0 : J')
    (h : Rf (List.map e) (evI Φ it env) t) (hx : X env) (h0 : frzE it env = mkL s0 j0) (ha : ∀ a s j, PC.asgT tt (e a) (mkL s j) = some (env1 a s j)) (hb : ∀ a s j, Sim er X mkL (evSs Φ fu b (env1 a s j)) (body a s)) (hr : ∀ s j, Sim er X mk (evSs Φ fu r (mkL s j)) (K s)) :
    Sim er X mk (evSs Φ fu (.for_ tt it b :: r) env) ((letR t fun l => forL l s0 body).seq K) := by
  rw [z_go, z_for]
  refine Sim.after (mk' := mkL) (Sim.onR' h hx fun l => ?_) hr
  have := Sim.loop (tt := tt) (e := e) env1 ha hb l s0 j0
  rw [forL_nobk] at this
  have e1 : frzI it (l.map e) env = mkL s0 j0 := by rw [← h0]; rfl
  rw [e1]
  exact this
theorem Sim.whl {c : E} {b r : List S} {env : Env} {tc : σ' → R Bool} {body : σ' → Fl σ' ρ} {K : σ' → Fl σ ρ} (mkL : σ' → J' → Env) (s0 : σ') (j0 : J') (h0 : env = mkL s0 j0) (hx : ∀ s j, X (mkL s j))
    (hc : ∀ s j, Rf eB (evE Φ c (mkL s j)) (tc s)) (hb : ∀ s j, Sim er X mkL (evSs Φ fu b (mkL s j)) (body s)) (hr : ∀ s j, Sim er X mk (evSs Φ fu r (mkL s j)) (K s)) :
    Sim er X mk (evSs Φ fu (.whl c b :: r) env) ((whlL tc body fu s0).seq K) := by
  rw [z_go, z_whl]
  refine Sim.after (mk' := mkL) ?_ hr
  subst h0
  have key : ∀ (n : Nat) s j, Sim er X mkL (evWhl (fun env => toB (evE Φ c env)) (evSs Φ fu b) n (mkL s j)) (whlL tc body n s) := by
    intro n
    induction n with
    | zero => intro s j; trivial
    | succ n ih =>
      intro s j
      unfold evWhl whlL
      have h := (hc s j).toB
      cases q : tc s with
      | ok k =>
        rw [q] at h
        simp only [show _ = _ from h]
        cases k with
        | false => exact ⟨j, rfl⟩
        | true =>
          have h := hb s j
          cases q : body s with
          | nx s' => rw [q] at h; obtain ⟨j', h⟩ := h; simp only [h]; exact ih s' j'
          | bk s' => rw [q] at h; obtain ⟨j', h⟩ := h; simp only [h]; exact ⟨j', rfl⟩
          | rt v => rw [q] at h; simp only [show _ = _ from h]; rfl
          | ex c => rw [q] at h; obtain ⟨env, h, hx⟩ := h; simp only [h]; exact ⟨env, rfl, hx⟩
          | st => trivial
      | ex c => rw [q] at h; simp only [show _ = _ from h]; exact ⟨_, rfl, hx s j⟩
      | st => trivial
  exact key fu s0 j0
theorem fn_sim {T : Str → Option Fn} {k : Nat} {f : Str} {fn : Fn} {ds : List D} {t : Fl Unit ρ} {d : R ρ} (hT : T f = some fn) (hl : ds.length = fn.np) (hd : Rf er (.ok .none) d)
    (h : Sim er (fun _ => True) (fun (_ : Unit) (j : Env) => j) (evSs (callP T fu k) fu fn.body (ds.map .f ++ List.replicate (fn.nl - fn.np) .u)) t) : Rf er (callP T fu (k + 1) f ds) (t.run d) := by
  rw [callP_succ hT]
  unfold runFn
  rw [if_pos hl]
  cases t with
  | nx s => obtain ⟨j, h⟩ := h; rw [h]; exact hd
  | bk s => trivial
  | rt v => rw [show _ = _ from h]; rfl
  | ex c => obtain ⟨env, h, _⟩ := h; rw [h]; rfl
  | st => trivial
end
end PC
set_option Elab.async false
set_option linter.all false
namespace PC
open PySem
section
variable {Φ : Phi} {env : Env} {α β γ δ ε α' : Type}
theorem x_v {e : α → D} {a : α} {i : Nat} (h : rdS (geti env i) = .ok (e a)) : Rf e (evE Φ (.v i) env) (.ok a) := by rw [z_e_v]; exact h
theorem x_int {i : Int} : Rf eI (evE Φ (.int i) env) (.ok i) := by rw [z_e_int]; rfl
theorem x_bl {i : Bool} : Rf eB (evE Φ (.bl i) env) (.ok i) := by rw [z_e_bl]; rfl
/-- another type for the same value -/
theorem x_co {e : α → D} {e' : β → D} {r : R D} {t : R α} {f : α → β} (h : Rf e r t) (c : ∀ a, e a = e' (f a)) : Rf e' r (t.bind fun a => .ok (f a)) := by
  cases t with
  | ok a => cases (show r = .ok (e a) from h); show R.ok (e a) = .ok (e' (f a)); rw [c]
  | ex c => exact h
  | st => trivial
theorem x_cop {e : α → D} {e' : β → D} {r : R D} {t : R α} {f : α → R β} (h : Rf e r t) (c : ∀ a, Rf e' (.ok (e a)) (f a)) : Rf e' r (t.bind f) := by
  cases t with
  | ok a => cases (show r = .ok (e a) from h); exact c a
  | ex c => exact h
  | st => trivial
theorem co_leaf (a : Int) : eI a = eTr (.leaf a) := by rw [eTr]
theorem co_L {e : α → D} {e' : β → D} {f : α → β} (c : ∀ a, e a = e' (f a)) (l : List α) : eL e l = eL e' (l.map f) := by
  simp only [eL, List.map_map]
  congr 1
  exact List.map_congr_left fun a _ => c a
theorem co_SL {e : α → D} (l : List α) : eL e l = eSq false e l := rfl
theorem x_not {a : E} {t : R Bool} (h : Rf eB (evE Φ a env) t) : Rf eB (evE Φ (.not a) env) (t.bind fun b => .ok (!b)) := by
  rw [z_e_not]
  cases t with
  | ok b => rw [show evE Φ a env = _ from h]; rfl
  | ex c => rw [show evE Φ a env = _ from h]; rfl
  | st => trivial
theorem x_and {a b : E} {t u : R Bool} (h : Rf eB (evE Φ a env) t) (h' : Rf eB (evE Φ b env) u) : Rf eB (evE Φ (.and a b) env) (t.bind fun c => if c then u else .ok false) := by
  rw [z_e_and]
  refine Rf.bind h.toB fun c => ?_
  cases c with
  | true =>
    simp only [if_true]
    cases u with
    | ok b' => rw [show evE Φ b env = _ from h']; rfl
    | ex c => rw [show evE Φ b env = _ from h']; rfl
    | st => trivial
  | false => rfl
theorem x_or {a b : E} {t u : R Bool} (h : Rf eB (evE Φ a env) t) (h' : Rf eB (evE Φ b env) u) : Rf eB (evE Φ (.or a b) env) (t.bind fun c => if c then .ok true else u) := by
  rw [z_e_or]
  refine Rf.bind h.toB fun c => ?_
  cases c with
  | false =>
    simp only [Bool.false_eq_true, if_false]
    cases u with
    | ok b' => rw [show evE Φ b env = _ from h']; rfl
    | ex c => rw [show evE Φ b env = _ from h']; rfl
    | st => trivial
  | true => rfl
/-- .. where the second part is plain -/
theorem x_andp {a b : E} {t : R Bool} {u : Bool} (h : Rf eB (evE Φ a env) t) (h' : Rf eB (evE Φ b env) (.ok u)) : Rf eB (evE Φ (.and a b) env) (t.bind fun c => .ok (c && u)) := by
  refine Rf.to ?_ (x_and h h')
  cases t with
  | ok c => cases c <;> rfl
  | ex c => rfl
  | st => rfl
theorem x_op {o : Op} {a b : E} {e1 : α → D} {e2 : β → D} {e : γ → D} {t : R α} {u : R β} {g : α → β → R γ} (h : Rf e1 (evE Φ a env) t) (h' : Rf e2 (evE Φ b env) u) (hg : ∀ x y, Rf e (evOp o (e1 x) (e2 y)) (g x y)) : Rf e (evE Φ (.op o a b) env) (t.bind fun x => u.bind fun y => g x y) := by
  rw [z_e_op]
  exact Rf.bind h fun x => Rf.bind h' fun y => hg x y
theorem o_add (x y : Int) : Rf eI (evOp .add (eI x) (eI y)) (.ok (x + y)) := rfl
theorem o_sub (x y : Int) : Rf eI (evOp .sub (eI x) (eI y)) (.ok (x - y)) := rfl
theorem o_mul (x y : Int) : Rf eI (evOp .mul (eI x) (eI y)) (tmul x y) := by
  rw [y_om]; unfold tmul
  split <;> first | rfl | trivial
theorem o_div (x y : Int) : Rf eI (evOp .div (eI x) (eI y)) (tdiv x y) := by
  rw [y_od]; unfold tdiv
  split <;> first | rfl | trivial
theorem o_mod (x y : Int) : Rf eI (evOp .mod (eI x) (eI y)) (tmod x y) := by
  rw [y_omd]; unfold tmod
  split <;> first | rfl | trivial
theorem o_pow (x y : Int) : Rf eI (evOp .pow (eI x) (eI y)) (tpow x y) := by
  show Rf eI (if 0 ≤ y ∧ y ≤ 1000000 ∧ x.natAbs < 2 ^ 64 then R.ok (PyData.int (x ^ y.toNat)) else .st) _
  unfold tpow
  split <;> first | rfl | trivial
theorem o_catT {e : α → D} (x y : List α) : Rf (eT e) (evOp .add (eT e x) (eT e y)) (catL x y) := by
  show Rf (eT e) (if (x.map e).length + (y.map e).length ≤ sizeLine then R.ok (PyData.tuple (x.map e ++ y.map e)) else .st) _
  unfold catL
  rw [List.length_map, List.length_map]
  by_cases c : x.length + y.length ≤ sizeLine
  · rw [if_pos c, if_pos c]; show _ = _; rw [← List.map_append]
  · rw [if_neg c, if_neg c]; trivial
theorem o_catL {e : α → D} (x y : List α) : Rf (eL e) (evOp .add (eL e x) (eL e y)) (catL x y) := by
  show Rf (eL e) (if (x.map e).length + (y.map e).length ≤ sizeLine then R.ok (PyData.list (x.map e ++ y.map e)) else .st) _
  unfold catL
  rw [List.length_map, List.length_map]
  by_cases c : x.length + y.length ≤ sizeLine
  · rw [if_pos c, if_pos c]; show _ = _; rw [← List.map_append]
  · rw [if_neg c, if_neg c]; trivial
theorem x_cmp {a : E} {cs : Cs} {e : α → D} {t : R α} {k : α → R Bool} (h : Rf e (evE Φ a env) t) (hk : ∀ x, Rf eB (evC Φ cs (e x) env) (k x)) : Rf eB (evE Φ (.cmp a cs) env) (t.bind k) := by
  rw [z_e_cmp]
  exact Rf.bind h hk
abbrev eJ : Bool → Bool := fun b => b
theorem Rf.flt {r : R Bool} {t : R Bool} (h : Rf eJ r t) : Rf eB (flt r) t := by
  cases t with
  | ok a => cases (show r = .ok a from h); rfl
  | ex c => cases (show r = .ex c from h); rfl
  | st => trivial
theorem c_one {c : Cm} {b : E} {d : D} {e : β → D} {t : R β} {g : β → R Bool} (h : Rf e (evE Φ b env) t) (hg : ∀ y, Rf eJ (evCm c d (e y)) (g y)) : Rf eB (evC Φ (.one c b) d env) (t.bind g) := by
  rw [z_c1]
  exact Rf.bind h fun y => (hg y).flt
theorem c_more {c : Cm} {b : E} {cs : Cs} {d : D} {e : β → D} {t : R β} {g k : β → R Bool} (h : Rf e (evE Φ b env) t) (hg : ∀ y, Rf eJ (evCm c d (e y)) (g y)) (hk : ∀ y, Rf eB (evC Φ cs (e y) env) (k y)) :
    Rf eB (evC Φ (.more c b cs) d env) (t.bind fun y => (g y).bind fun q => if q then k y else .ok false) := by
  rw [z_c2]
  refine Rf.bind h fun y => Rf.bind (e := eJ) (hg y) fun q => ?_
  cases q with
  | true => exact hk y
  | false => rfl
theorem c_morep {c : Cm} {b : E} {cs : Cs} {d : D} {e : β → D} {t : R β} {g k : β → Bool} (h : Rf e (evE Φ b env) t) (hg : ∀ y, Rf eJ (evCm c d (e y)) (.ok (g y))) (hk : ∀ y, Rf eB (evC Φ cs (e y) env) (.ok (k y))) :
    Rf eB (evC Φ (.more c b cs) d env) (t.bind fun y => .ok (g y && k y)) := by
  refine Rf.to ?_ (c_more h hg hk)
  congr 1
  funext y
  show (if g y then R.ok (k y) else .ok false) = _
  cases g y <;> rfl
theorem m_lt (x y : Int) : Rf eJ (evCm .lt (eI x) (eI y)) (.ok (decide (x < y))) := rfl
theorem m_gt (x y : Int) : Rf eJ (evCm .gt (eI x) (eI y)) (.ok (decide (y < x))) := rfl
theorem m_le (x y : Int) : Rf eJ (evCm .le (eI x) (eI y)) (.ok (decide (x ≤ y))) := by
  show R.ok (!(decide (y < x))) = .ok (decide (x ≤ y))
  congr 1
  rw [← decide_not]
  exact decide_eq_decide.mpr Int.not_lt
theorem m_ge (x y : Int) : Rf eJ (evCm .ge (eI x) (eI y)) (.ok (decide (y ≤ x))) := by
  show R.ok (!(decide (x < y))) = .ok (decide (y ≤ x))
  congr 1
  rw [← decide_not]
  exact decide_eq_decide.mpr Int.not_lt
def memB {α : Type} [DecidableEq α] (x : α) (l : List α) : Bool := decide (x ∈ l)
@[simp] theorem memB_eq {α : Type} [DecidableEq α] {x : α} {l : List α} : memB x l = decide (x ∈ l) := rfl
/-- values of one type that can be compared -/
structure Eqe [DecidableEq α] (e : α → D) (n : Nat) : Prop where
  lay : ∀ a, (e a).canLay0 = true
  dep : ∀ a, (e a).depth ≤ n
  eqv : ∀ a b, PyData.eqv (e a) (e b) = decide (a = b)
theorem q_I : Eqe eI 0 := ⟨fun _ => rfl, fun _ => Nat.le_refl _, fun a b => by rw [eqv_int]; rfl⟩
theorem q_W : Eqe eW 0 := ⟨fun a => by cases a <;> decide +kernel, fun a => by cases a <;> exact Nat.le_refl _, fun a b => by cases a <;> cases b <;> rfl⟩
section
variable [DecidableEq α] [DecidableEq β] {e : α → D} {e' : β → D} {n m : Nat}
theorem q_lays (q : Eqe e n) : ∀ l : List α, PyData.canLayAll0 (l.map e) = true
  | [] => by simp [PyData.canLayAll0]
  | a :: l => by simp [PyData.canLayAll0, q.lay a, q_lays q l]
theorem q_deps (q : Eqe e n) : ∀ l : List α, PyData.depthAll (l.map e) ≤ n + 1
  | [] => by simp [PyData.depthAll]
  | a :: l => by
    have := q_deps q l
    have := q.dep a
    simp [PyData.depthAll]
    omega
theorem q_eqvs (q : Eqe e n) : ∀ a b : List α, PyData.eqvAll (a.map e) (b.map e) = decide (a = b)
  | [], [] => by simp [PyData.eqvAll]
  | [], _ :: _ => by simp [PyData.eqvAll]
  | _ :: _, [] => by simp [PyData.eqvAll]
  | x :: a, y :: b => by
    simp only [List.map_cons, PyData.eqvAll, q.eqv, q_eqvs q a b, List.cons.injEq]
    by_cases h : x = y <;> by_cases h2 : a = b <;> simp [h, h2]
theorem q_T (q : Eqe e n) : Eqe (eT e) (n + 2) := ⟨fun l => by simp [PyData.canLay0, q_lays q l], fun l => by have := q_deps q l; simp [PyData.depth]; omega, fun a b => by simp only [eT, PyData.eqv, q_eqvs q]⟩
theorem q_L (q : Eqe e n) : Eqe (eL e) (n + 2) := ⟨fun l => by simp [PyData.canLay0, q_lays q l], fun l => by have := q_deps q l; simp [PyData.depth]; omega, fun a b => by simp only [eL, PyData.eqv, q_eqvs q]⟩
theorem q_sh (q : Eqe e n) (hn : n ≤ 64) (a : α) : SeqAt.shaped (e a) = true := by
  have := q.dep a
  simp only [SeqAt.shaped, q.lay a, Bool.true_and, decide_eq_true_eq]
  omega
theorem m_eq (q : Eqe e n) (hn : n ≤ 64) (x y : α) : Rf eJ (evCm .eq (e x) (e y)) (.ok (decide (x = y))) := by
  show eqD (e x) (e y) = .ok (decide (x = y))
  unfold eqD
  rw [q_sh q hn, q_sh q hn, Bool.and_self, Bool.or_true, if_pos rfl, q.eqv]
theorem m_ne (q : Eqe e n) (hn : n ≤ 64) (x y : α) : Rf eJ (evCm .ne (e x) (e y)) (.ok (!decide (x = y))) := by
  show notR (evCm .eq (e x) (e y)) = _
  rw [show evCm .eq (e x) (e y) = _ from m_eq q hn x y]; rfl
theorem q_any (q : Eqe e n) (x : α) : ∀ l : List α, ((l.map e).any fun z => PyData.eqv z (e x)) = decide (x ∈ l)
  | [] => by simp
  | y :: l => by
    simp only [List.map_cons, List.any_cons, q.eqv, q_any q x l, List.mem_cons]
    by_cases h : x = y
    · simp [h]
    · have h2 : ¬ y = x := fun e => h e.symm
      simp [h, h2]
theorem m_inL (q : Eqe e n) (hn : n ≤ 62) (x : α) (l : List α) : Rf eJ (evCm .in_ (e x) (eL e l)) (.ok (memB x l)) := by
  show inD (e x) (eL e l) = _
  have h := q_sh (q_L q) (by omega) l
  unfold inD
  simp only [q_sh q (show n ≤ 64 by omega) x, h, Bool.and_self, if_true, q_any q, memB]
theorem m_ninL (q : Eqe e n) (hn : n ≤ 62) (x : α) (l : List α) : Rf eJ (evCm .nin (e x) (eL e l)) (.ok (!memB x l)) := by
  show notR (evCm .in_ (e x) (eL e l)) = _
  rw [show evCm .in_ (e x) (eL e l) = _ from m_inL q hn x l]; rfl
end
theorem es_nil {e : α → D} : Rf (List.map e) (evs Φ .nil env) (.ok []) := by rw [z_es0]; rfl
theorem es_cons {a : E} {r : Es} {e : α → D} {t : R α} {u : R (List α)} (h : Rf e (evE Φ a env) t) (h' : Rf (List.map e) (evs Φ r env) u) : Rf (List.map e) (evs Φ (.cons a r) env) (t.bind fun x => u.bind fun l => .ok (x :: l)) := by
  rw [z_es1]
  exact Rf.bind h fun x => Rf.bind h' fun l => rfl
theorem x_lst {es : Es} {e : α → D} {t : R (List α)} (h : Rf (List.map e) (evs Φ es env) t) : Rf (eL e) (evE Φ (.lst es) env) (t.bind fun l => .ok l) := by
  rw [z_e_lst]
  exact Rf.bind h fun l => rfl
theorem x_tup {es : Es} {e : α → D} {t : R (List α)} (h : Rf (List.map e) (evs Φ es env) t) : Rf (eT e) (evE Φ (.tup es) env) (t.bind fun l => .ok l) := by
  rw [z_e_tup]
  exact Rf.bind h fun l => rfl
theorem x_tup2 {a b : E} {e : α → D} {e' : β → D} {t : R α} {u : R β} (h : Rf e (evE Φ a env) t) (h' : Rf e' (evE Φ b env) u) : Rf (eP e e') (evE Φ (.tup (.cons a (.cons b .nil))) env) (t.bind fun x => u.bind fun y => .ok (x, y)) := by
  rw [z_e_tup, z_es1]
  cases t with
  | ok x =>
    rw [show evE Φ a env = _ from h, z_es1]
    cases u with
    | ok y => rw [show evE Φ b env = _ from h', z_es0]; rfl
    | ex c => rw [show evE Φ b env = _ from h']; rfl
    | st => trivial
  | ex c => rw [show evE Φ a env = _ from h]; rfl
  | st => trivial
theorem x_tup3 {a b c : E} {e : α → D} {e' : β → D} {e'' : γ → D} {t : R α} {u : R β} {v : R γ} (h : Rf e (evE Φ a env) t) (h' : Rf e' (evE Φ b env) u) (h'' : Rf e'' (evE Φ c env) v) : Rf (eP3 e e' e'') (evE Φ (.tup (.cons a (.cons b (.cons c .nil)))) env) (t.bind fun x => u.bind fun y => v.bind fun z => .ok (x, y, z)) := by
  rw [z_e_tup, z_es1]
  cases t with
  | ok x =>
    rw [show evE Φ a env = _ from h, z_es1]
    cases u with
    | ok y =>
      rw [show evE Φ b env = _ from h', z_es1]
      cases v with
      | ok z => rw [show evE Φ c env = _ from h'', z_es0]; rfl
      | ex c' => rw [show evE Φ c env = _ from h'']; rfl
      | st => trivial
    | ex c => rw [show evE Φ b env = _ from h']; rfl
    | st => trivial
  | ex c => rw [show evE Φ a env = _ from h]; rfl
  | st => trivial
/-- a tree of two written parts -/
theorem x_node {a b : E} {t : R Bool} {u : R (List Tr)} (h : Rf eW (evE Φ a env) t) (h' : Rf (eT eTr) (evE Φ b env) u) : Rf eTr (evE Φ (.tup (.cons a (.cons b .nil))) env) (t.bind fun x => u.bind fun y => .ok (.node x y)) := by
  refine Rf.to ?_ (x_co (e' := eTr) (f := fun p : Bool × List Tr => Tr.node p.1 p.2) (x_tup2 h h') fun p => by rw [eTr, eTrs_map])
  cases t with
  | ok x => cases u <;> rfl
  | ex c => rfl
  | st => rfl
theorem x_wa : Rf eW (evE Φ (.str "any") env) (.ok true) := by rw [z_e_str]; rfl
theorem x_wr : Rf eW (evE Φ (.str "row") env) (.ok false) := by rw [z_e_str]; rfl
theorem x_ix {a b : E} {e1 : α → D} {e2 : β → D} {e : γ → D} {t : R α} {u : R β} {g : α → β → R γ} (h : Rf e1 (evE Φ a env) t) (h' : Rf e2 (evE Φ b env) u) (hg : ∀ x y, Rf e (evIx (e1 x) (e2 y)) (g x y)) : Rf e (evE Φ (.ix a b) env) (t.bind fun x => u.bind fun y => g x y) := by
  rw [z_e_ix]
  exact Rf.bind h fun x => Rf.bind h' fun y => hg x y
theorem getAt_map {e : α → D} (l : List α) (i : Int) : Rf e (getAt (l.map e) i) (atL l i) := by
  unfold getAt atL L2.atI
  rw [List.length_map]
  cases L2.ixN l.length i with
  | none => trivial
  | some j =>
    simp only [Option.bind_some, List.getElem?_map]
    cases l[j]? with
    | none => trivial
    | some a => rfl
theorem i_L {e : α → D} (l : List α) (i : Int) : Rf e (evIx (eL e l) (eI i)) (atL l i) := getAt_map l i
theorem i_T {e : α → D} (l : List α) (i : Int) : Rf e (evIx (eT e l) (eI i)) (atL l i) := getAt_map l i
theorem o_no : Rf (fun o : Option Int => o) (evO Φ .no env) (.ok none) := by rw [z_o0]; rfl
theorem o_yes {a : E} {t : R Int} (h : Rf eI (evE Φ a env) t) : Rf (fun o : Option Int => o) (evO Φ (.yes a) env) (t.bind fun i => .ok (some i)) := by
  rw [z_o1]
  exact Rf.bind h fun i => rfl
theorem x_sl {a : E} {lo hi : Oe} {e1 : α → D} {e : β → D} {t : R α} {u v : R (Option Int)} {g : α → Option Int → Option Int → R β} (h : Rf e1 (evE Φ a env) t) (h' : Rf (fun o : Option Int => o) (evO Φ lo env) u) (h'' : Rf (fun o : Option Int => o) (evO Φ hi env) v) (hg : ∀ x i j, Rf e (evSl (e1 x) i j) (g x i j)) :
    Rf e (evE Φ (.sl a lo hi) env) (t.bind fun x => u.bind fun i => v.bind fun j => g x i j) := by
  rw [z_e_sl]
  exact Rf.bind h fun x => Rf.bind h' fun i => Rf.bind h'' fun j => hg x i j
theorem cutD_map {e : α → D} (l : List α) (lo hi : Option Int) : cutD (l.map e) lo hi = (cutL l lo hi).map e := by
  simp only [cutD, cutL, List.length_map, List.map_take, List.map_drop]
theorem s_L {e : α → D} (l : List α) (lo hi : Option Int) : Rf (eL e) (evSl (eL e l) lo hi) (.ok (cutL l lo hi)) := by
  show R.ok (PyData.list (cutD (l.map e) lo hi)) = _
  rw [cutD_map]
theorem s_T {e : α → D} (l : List α) (lo hi : Option Int) : Rf (eT e) (evSl (eT e l) lo hi) (.ok (cutL l lo hi)) := by
  show R.ok (PyData.tuple (cutD (l.map e) lo hi)) = _
  rw [cutD_map]
theorem x_bi1 {b : Bi} {a : E} {e1 : α → D} {e : β → D} {t : R α} {g : α → R β} (h : Rf e1 (evE Φ a env) t) (hg : ∀ x, Rf e (evBi b [e1 x]) (g x)) : Rf e (evE Φ (.bi b (.cons a .nil)) env) (t.bind g) := by
  rw [z_e_bi, z_es1]
  cases t with
  | ok x => rw [show evE Φ a env = _ from h, z_es0]; exact hg x
  | ex c => rw [show evE Φ a env = _ from h]; rfl
  | st => trivial
theorem b_lenL {e : α → D} (l : List α) : Rf eI (evBi .len [eL e l]) (.ok (l.length : Int)) := by
  show R.ok (PyData.int ((l.map e).length : Int)) = _
  rw [List.length_map]
theorem b_lenT {e : α → D} (l : List α) : Rf eI (evBi .len [eT e l]) (.ok (l.length : Int)) := by
  show R.ok (PyData.int ((l.map e).length : Int)) = _
  rw [List.length_map]
theorem b_int (i : Int) : Rf eI (evBi .int [eI i]) (.ok i) := rfl
theorem b_intB (b : Bool) : Rf eI (evBi .int [eB b]) (.ok (if b then 1 else 0)) := rfl
theorem b_neg (i : Int) : Rf eI (evBi .neg [eI i]) (.ok (-i)) := rfl
theorem b_sortL (l : List Int) : Rf (eL eI) (evBi .sorted [eL eI l]) (.ok (isort l)) := by
  unfold evBi
  simp only [eL, asInts_ok]
  rfl
theorem b_tupL {e : α → D} (l : List α) : Rf (eT e) (evBi .tuple [eL e l]) (.ok l) := rfl
theorem b_lstT {e : α → D} (l : List α) : Rf (eL e) (evBi .list [eT e l]) (.ok l) := rfl
theorem asBools_ok : ∀ l : List Bool, asBools (l.map .bool) = some l
  | [] => rfl
  | b :: l => by simp [asBools, asBools_ok l]
theorem b_all (l : List Bool) : Rf eB (evBi .all [eL eB l]) (.ok (l.all id)) := by
  unfold evBi
  simp only [eL, asBools_ok]
  rfl
def lenSetR (l : List Int) : R Int := if l.length ≤ 1000 then .ok ((nodupI l).length : Int) else .st
theorem b_lset (l : List Int) : Rf eI (evBi .lenSet [eT eI l]) (lenSetR l) := by
  unfold evBi lenSetR
  simp only [eT, asInts_ok]
  split <;> first | rfl | trivial
theorem b_lR1 (n : Int) : Rf (eL eI) (evBi .listR1 [eI n]) (rng 0 n) := by
  show Rf (eL eI) (if rgOk 0 n then R.ok (PyData.list (rgD 0 n)) else .st) _
  unfold rng
  split <;> first | rfl | trivial
theorem x_call1 {f : Str} {a : E} {e1 : α → D} {e : β → D} {t : R α} {g : α → R β} (h : Rf e1 (evE Φ a env) t) (hg : ∀ x, Rf e (Φ f [e1 x]) (g x)) : Rf e (evE Φ (.call f (.cons a .nil)) env) (t.bind g) := by
  rw [z_e_call, z_es1]
  cases t with
  | ok x => rw [show evE Φ a env = _ from h, z_es0]; exact hg x
  | ex c => rw [show evE Φ a env = _ from h]; rfl
  | st => trivial
theorem x_call2 {f : Str} {a b : E} {e1 : α → D} {e2 : γ → D} {e : β → D} {t : R α} {u : R γ} {g : α → γ → R β} (h : Rf e1 (evE Φ a env) t) (h' : Rf e2 (evE Φ b env) u) (hg : ∀ x y, Rf e (Φ f [e1 x, e2 y]) (g x y)) : Rf e (evE Φ (.call f (.cons a (.cons b .nil))) env) (t.bind fun x => u.bind fun y => g x y) := by
  rw [z_e_call, z_es1]
  cases t with
  | ok x =>
    rw [show evE Φ a env = _ from h, z_es1]
    cases u with
    | ok y => rw [show evE Φ b env = _ from h', z_es0]; exact hg x y
    | ex c => rw [show evE Φ b env = _ from h']; rfl
    | st => trivial
  | ex c => rw [show evE Φ a env = _ from h]; rfl
  | st => trivial
theorem n_L {a : E} {e : α → D} {t : R (List α)} (h : Rf (eL e) (evE Φ a env) t) : Rf (List.map e) (evI Φ (.e a) env) (t.bind fun l => .ok l) := by
  rw [z_ie]
  exact Rf.bind h fun l => rfl
theorem n_T {a : E} {e : α → D} {t : R (List α)} (h : Rf (eT e) (evE Φ a env) t) : Rf (List.map e) (evI Φ (.e a) env) (t.bind fun l => .ok l) := by
  rw [z_ie]
  exact Rf.bind h fun l => rfl
theorem n_r1 {a : E} {t : R Int} (h : Rf eI (evE Φ a env) t) : Rf (List.map eI) (evI Φ (.r1 a) env) (t.bind fun n => rng 0 n) := by
  rw [z_i1]
  refine Rf.bind h fun n => ?_
  show Rf (List.map eI) (if rgOk 0 n then R.ok (rgD 0 n) else .st) _
  unfold rng
  split <;> first | rfl | trivial
theorem t_no : Rf eJ (evT Φ .no env) (.ok true) := by rw [z_t0]; rfl
theorem t_yes {a : E} {t : R Bool} (h : Rf eB (evE Φ a env) t) : Rf eJ (evT Φ (.yes a) env) t := by rw [z_t1]; exact h.toB
def lcF (Φ : Phi) (own : List Nat) (tt : T) (c : Oe) (elt : E) (env : Env) (d : D) : R (Option D) := match asgT tt d (wipeS env own) with
  | none => .st
  | some env1 => match evT Φ c env1 with
    | .ok true => match evE Φ elt env1 with
      | .ok x => .ok (some x)
      | _ => .st
    | .ok false => .ok none
    | _ => .st
theorem z_lcF {own : List Nat} {tt : T} {it : I} {c : Oe} {elt : E} : evE Φ (.lc own tt it c elt) env = (evI Φ it env).bind fun ds => (compL (lcF Φ own tt c elt env) ds).bind fun l => .ok (.list l) := z_lc
theorem lc_key {own : List Nat} {tt : T} {c : Oe} {elt : E} {e1 : α → D} {e : β → D} {p : α → R Bool} {g : α → R β} (env1 : α → Env) (ha : ∀ a, asgT tt (e1 a) (wipeS env own) = some (env1 a)) (hp : ∀ a, Rf eJ (evT Φ c (env1 a)) (p a)) (hg : ∀ a, Rf e (evE Φ elt (env1 a)) (g a)) :
    ∀ l : List α, Rf (List.map e) (compL (lcF Φ own tt c elt env) (l.map e1)) (compR p g l)
  | [] => rfl
  | a :: l => by
    have ih := lc_key env1 ha hp hg l
    rw [List.map_cons]
    unfold compL compR
    have e0 : lcF Φ own tt c elt env (e1 a) = (match evT Φ c (env1 a) with
      | .ok true => match evE Φ elt (env1 a) with
        | .ok x => .ok (some x)
        | _ => .st
      | .ok false => .ok none
      | _ => .st) := by unfold lcF; rw [ha]
    rw [e0]
    have hp := hp a
    have hg := hg a
    cases q : p a with
    | ok b =>
      rw [q] at hp
      rw [show evT Φ c (env1 a) = _ from hp]
      cases b with
      | true =>
        simp only
        cases q2 : g a with
        | ok x =>
          rw [q2] at hg
          rw [show evE Φ elt (env1 a) = _ from hg]
          simp only
          cases q3 : compR p g l with
          | ok r => rw [q3] at ih; rw [show compL _ _ = _ from ih]; rfl
          | ex c => trivial
          | st => trivial
        | ex c => trivial
        | st => trivial
      | false => exact ih
    | ex c => trivial
    | st => trivial
theorem x_lc {own : List Nat} {tt : T} {it : I} {c : Oe} {elt : E} {e1 : α → D} {e : β → D} {t : R (List α)} {p : α → R Bool} {g : α → R β} (env1 : α → Env) (h : Rf (List.map e1) (evI Φ it env) t) (ha : ∀ a, asgT tt (e1 a) (wipeS env own) = some (env1 a)) (hp : ∀ a, Rf eJ (evT Φ c (env1 a)) (p a)) (hg : ∀ a, Rf e (evE Φ elt (env1 a)) (g a)) :
    Rf (eL e) (evE Φ (.lc own tt it c elt) env) (t.bind fun l => compR p g l) := by
  rw [z_lcF]
  refine Rf.bind h fun l => ?_
  have k := lc_key (own := own) env1 ha hp hg l
  cases q : compR p g l with
  | ok m => rw [q] at k; rw [show compL _ _ = _ from k]; rfl
  | ex c => rw [q] at k; rw [show compL _ _ = _ from k]; rfl
  | st => trivial
theorem compR_map {g : α → R β} : ∀ l : List α, compR (fun _ => .ok true) g l = mapR g l
  | [] => rfl
  | a :: l => by
    unfold compR mapR
    rw [compR_map l]
theorem x_lcm {own : List Nat} {tt : T} {it : I} {elt : E} {e1 : α → D} {e : β → D} {t : R (List α)} {g : α → R β} (env1 : α → Env) (h : Rf (List.map e1) (evI Φ it env) t) (ha : ∀ a, asgT tt (e1 a) (wipeS env own) = some (env1 a)) (hg : ∀ a, Rf e (evE Φ elt (env1 a)) (g a)) :
    Rf (eL e) (evE Φ (.lc own tt it .no elt) env) (t.bind fun l => mapR g l) := by
  refine Rf.to ?_ (x_lc env1 h ha (fun _ => t_no) hg)
  congr 1
  funext l
  exact compR_map l
theorem mapR_p {g : α → β} : ∀ l : List α, mapR (fun a => .ok (g a)) l = .ok (l.map g)
  | [] => rfl
  | a :: l => by
    unfold mapR
    rw [mapR_p l]
    rfl
theorem x_lca {own : List Nat} {tt : T} {it : I} {elt : E} {e1 : α → D} {e : β → D} {t : R (List α)} {g : α → β} (env1 : α → Env) (h : Rf (List.map e1) (evI Φ it env) t) (ha : ∀ a, asgT tt (e1 a) (wipeS env own) = some (env1 a)) (hg : ∀ a, Rf e (evE Φ elt (env1 a)) (.ok (g a))) :
    Rf (eL e) (evE Φ (.lc own tt it .no elt) env) (t.bind fun l => .ok (l.map g)) := by
  refine Rf.to ?_ (x_lcm env1 h ha hg)
  congr 1
  funext l
  exact mapR_p l
end
end PC
set_option Elab.async false
set_option linter.all false
namespace PC
open PySem
def slb (b : Bool) (d : D) : Sl := match b with
  | true => .f d
  | false => .o d
theorem rd_slb {b : Bool} {d : D} : rdS (slb b d) = .ok d := by cases b <;> rfl
def frz1 (b : Bool) (s : Sl) : Sl := match s with
  | .o d => if b then .f d else .o d
  | s => s
theorem frzS_cons {vs : List Nat} {k : Nat} {s : Sl} {r : Env} : frzS vs k (s :: r) = frz1 (vs.contains k) s :: frzS vs (k + 1) r := by
  cases s <;> rfl
theorem frz_c {vs : List Nat} {k : Nat} {s s' : Sl} {r r' : Env} (h : frz1 (vs.contains k) s = s') (h' : frzS vs (k + 1) r = r') : frzS vs k (s :: r) = s' :: r' := by rw [frzS_cons, h, h']
theorem frz1_et {b : Bool} {d : D} : frz1 true (slb b d) = .f d := by cases b <;> rfl
theorem set_frz {vs : List Nat} {env env1 env2 : Env} {i : Nat} {s : Sl} (h : frzS vs 0 env = env1) (h' : sets env1 i s = env2) : sets (frzS vs 0 env) i s = env2 := by rw [h, h']
theorem R.assoc {α β γ : Type} (t : R α) (f : α → R β) (g : β → R γ) : (t.bind f).bind g = t.bind fun a => (f a).bind g := by cases t <;> rfl
theorem bind_id2 {α : Type} (t : R α) : t.bind R.ok = t := by cases t <;> rfl
theorem bind_id {α : Type} (t : R α) : (t.bind fun a => .ok a) = t := by cases t <;> rfl
section
variable {σ σ' ρ J J' α β : Type} {er : ρ → D} {X : Env → Prop} {mk : σ → J → Env} {Φ : Phi} {fu : Nat}
variable {i : Nat} {e : E} {r : List S} {env : Env} {enc : α → D} {t : R α} {k : α → Fl σ ρ}
def appPopL {α σ ρ : Type} (l : List α) (m : List α) (z : Int) (k : List α → List α → Fl σ ρ) : Fl σ ρ := match seqIndex? z l.length with
  | some j => match l[j]? with
    | some a => if z.natAbs.ble 1000000000000000000 ∧ m.length < cap then k (l.eraseIdx j) (m ++ [a]) else .st
    | none => .st
  | none => .st
theorem eraseIdx_map' {e : α → β} : ∀ (l : List α) (i : Nat), (l.map e).eraseIdx i = (l.eraseIdx i).map e
  | [], i => by simp
  | x :: l, 0 => by simp
  | x :: l, i + 1 => by simp [eraseIdx_map' l i]
theorem popAt_map {e : α → D} (l : List α) (z : Int) : popAt (l.map e) z = match seqIndex? z l.length with
    | some j => if z.natAbs.ble 1000000000000000000 then (l[j]?).map fun a => (e a, (l.eraseIdx j).map e) else none
    | none => none := by
  unfold popAt
  rw [List.length_map]
  cases seqIndex? z l.length with
  | none => rfl
  | some j =>
    simp only [List.getElem?_map, eraseIdx_map', Option.map_map]
    rfl
theorem Sim.appPop {q : Nat} {e' : β → D} {l m : List β} {t : R Int} {k : List β → List β → Fl σ ρ} (hij : i ≠ q) (env' : List β → List β → Env) (h : Rf eI (evE Φ e env) t) (hx : X env) (hg : geti env i = .o (eL e' m)) (hg2 : geti env q = .o (eL e' l)) (he : ∀ a b, sets (sets env q (.o (eL e' a))) i (.o (eL e' b)) = env' a b) (hk : ∀ a b, Sim er X mk (evSs Φ fu r (env' a b)) (k a b)) :
    Sim er X mk (evSs Φ fu (.appPop i q e :: r) env) (letR t fun z => appPopL l m z k) := by
  rw [z_go]
  simp only [evS, hg, hg2, onR_cons]
  refine Sim.onR h hx fun z => ?_
  simp only [popAt_map]
  unfold appPopL
  cases seqIndex? z l.length with
  | none => trivial
  | some j =>
    simp only
    cases hj : l[j]? with
    | none => trivial
    | some a =>
      by_cases c1 : z.natAbs.ble 1000000000000000000 = true
      · by_cases c2 : m.length < cap
        · have e2 : sets (sets env q (.o (.list ((l.eraseIdx j).map e')))) i (.o (.list (m.map e' ++ [e' a]))) = env' (l.eraseIdx j) (m ++ [a]) := by
            rw [← he]
            simp only [eL, List.map_append, List.map_cons, List.map_nil]
          simp only [c1, c2, if_true, Option.map_some, List.length_map, and_self, ne_eq, hij, not_false_eq_true, e2]
          exact hk _ _
        · simp only [c2, and_false, if_false]; trivial
      · simp only [c1, false_and, if_false]; trivial
def insL {α σ ρ : Type} (l : List α) (z : Int) (a : α) (k : List α → Fl σ ρ) : Fl σ ρ := if 0 ≤ z ∧ z ≤ l.length ∧ l.length < cap then k (l.take z.toNat ++ a :: l.drop z.toNat) else .st
theorem Sim.ins {a b : E} {e' : β → D} {l : List β} {t : R Int} {u : R β} {k : List β → Fl σ ρ} (hfl : ∀ a, flat (e' a) = true) (env' : List β → Env) (h : Rf eI (evE Φ a env) t) (h' : Rf e' (evE Φ b env) u) (hx : X env) (hg : geti env i = .o (eL e' l)) (he : ∀ a, sets env i (.o (eL e' a)) = env' a) (hk : ∀ a, Sim er X mk (evSs Φ fu r (env' a)) (k a)) :
    Sim er X mk (evSs Φ fu (.ins i a b :: r) env) (letR t fun z => letR u fun v => insL l z v k) := by
  rw [z_go]
  simp only [evS, hg, onR_cons]
  refine Sim.onR h hx fun z => ?_
  refine Sim.onR h' hx fun v => ?_
  simp only [shr, if_pos (hfl v), hg]
  unfold insL
  by_cases c : 0 ≤ z ∧ z ≤ l.length ∧ l.length < cap
  · rw [if_pos c, if_pos (by rw [List.length_map]; exact c)]
    have e1 : sets env i (.o (.list ((l.map e').take z.toNat ++ e' v :: (l.map e').drop z.toNat))) = env' (l.take z.toNat ++ v :: l.drop z.toNat) := by rw [← he]; simp [eL]
    rw [e1]
    exact hk _
  · rw [if_neg c]; trivial
theorem Sim.srt {l : List Int} {t : Fl σ ρ} (env' : Env) (hg : geti env i = .o (eL eI l)) (he : sets env i (.o (eL eI (isort l))) = env') (hk : Sim er X mk (evSs Φ fu r env') t) : Sim er X mk (evSs Φ fu (.srt i :: r) env) t := by
  rw [z_go]
  simp only [evS, hg, eL, asInts_ok]
  have e1 : sets env i (.o (.list (List.map PyData.int (isort l)))) = env' := he
  rw [e1]
  exact hk
def remL {σ ρ : Type} (l : List Int) (z : Int) (k : List Int → Fl σ ρ) : Fl σ ρ := if z ∈ l then k (l.erase z) else .st
theorem Sim.rem {l : List Int} {t : R Int} {k : List Int → Fl σ ρ} (env' : List Int → Env) (h : Rf eI (evE Φ e env) t) (hx : X env) (hg : geti env i = .o (eL eI l)) (he : ∀ a, sets env i (.o (eL eI a)) = env' a) (hk : ∀ a, Sim er X mk (evSs Φ fu r (env' a)) (k a)) :
    Sim er X mk (evSs Φ fu (.rem i e :: r) env) (letR t fun z => remL l z k) := by
  rw [z_go]
  simp only [evS, hg, onR_cons]
  refine Sim.onR h hx fun z => ?_
  simp only [asInts_ok]
  unfold remL
  by_cases c : z ∈ l
  · rw [if_pos c, if_pos c]
    have e1 : sets env i (.o (.list (List.map PyData.int (l.erase z)))) = env' (l.erase z) := he _
    rw [e1]
    exact hk _
  · rw [if_neg c, if_neg c]; trivial
end
section
variable {σ σ' ρ J J' JX JH : Type} {er : ρ → D} {X : Env → Prop} {mk : σ → J → Env} {Φ : Phi} {fu : Nat}
theorem Sim.tryN {b h r : List S} {ks : List Str} {c : Str} {i : Nat} {env : Env} {mk' : σ' → J' → Env} {mkX : JX → Env} {mkH : σ' → JH → Env} {A : Fl σ' ρ} {H : Str → Fl σ' ρ} {K : σ' → Fl σ ρ} (envH : Str → JX → Env) (hx : ∀ j, X (mkX j)) (hA : Sim er (fun env => ∃ j, env = mkX j) mk' (evSs Φ fu b env) A)
    (he : ∀ k j, sets (mkX j) i (.x k) = envH k j) (hH : ∀ k j, Sim er (fun _ => True) mkH (evSs Φ fu h (envH k j)) (H k)) (hu : ∀ s j, ∃ j', sets (mkH s j) i .u = mk' s j') (hr : ∀ s j, Sim er X mk (evSs Φ fu r (mk' s j)) (K s)) :
    Sim er X mk (evSs Φ fu (.try_ b ks c (some i) h :: r) env) ((tryF A ks c H).seq K) := by
  rw [z_go]
  refine Sim.after (mk' := mk') ?_ hr
  simp only [evS]
  cases A with
  | nx s => obtain ⟨j, e⟩ := hA; rw [e]; exact ⟨j, rfl⟩
  | bk s => obtain ⟨j, e⟩ := hA; rw [e]; exact ⟨j, rfl⟩
  | rt v => rw [show _ = _ from hA]; rfl
  | st => trivial
  | ex k =>
    obtain ⟨env1, e, j, rfl⟩ := hA
    rw [e]
    simp only [tryF]
    by_cases c1 : ks.contains k = true
    · rw [if_pos c1, if_pos c1]
      by_cases c2 : subC k c = true
      · rw [if_pos c2, if_pos c2]
        have q := hH k j
        rw [← he] at q
        cases e2 : H k with
        | nx s => rw [e2] at q; obtain ⟨j', q⟩ := q; rw [q]; obtain ⟨j2, q2⟩ := hu s j'; exact ⟨j2, by rw [← q2]⟩
        | bk s => rw [e2] at q; obtain ⟨j', q⟩ := q; rw [q]; obtain ⟨j2, q2⟩ := hu s j'; exact ⟨j2, by rw [← q2]⟩
        | rt v => rw [e2] at q; rw [show _ = _ from q]; rfl
        | ex c => trivial
        | st => trivial
      · rw [if_neg c2, if_neg c2]; exact ⟨_, rfl, hx j⟩
    · rw [if_neg c1, if_neg c1]; trivial
theorem x_isx {env : Env} {i : Nat} {c k : Str} (h : geti env i = .x k) : Rf eB (evE Φ (.isx i c) env) (.ok (subC k c)) := by
  simp only [evE, h]
  rfl
end
/-- against the empty list -/
def eqNil {α : Type} (e : α → D) (l : List α) : R Bool := if SeqAt.shaped (eL e l) then .ok l.isEmpty else .st
theorem m_eqNil {α : Type} {e : α → D} (l : List α) (x : List α) (hx : x = []) : Rf eJ (evCm .eq (eL e l) (eL e x)) (eqNil e l) := by
  subst hx
  show Rf eJ (eqD (eL e l) (eL e [])) _
  unfold eqD eqNil
  by_cases c : SeqAt.shaped (eL e l) = true
  · rw [if_pos c, if_pos (by rw [c]; rfl)]
    cases l <;> simp [PyData.eqv, PyData.eqvAll, Rf]
  · rw [if_neg c]; trivial
theorem c_oneV {Φ : Phi} {env : Env} {β : Type} {c : Cm} {b : E} {d : D} {e : β → D} {y : β} {g : R Bool} (h : Rf e (evE Φ b env) (.ok y)) (hg : Rf eJ (evCm c d (e y)) g) : Rf eB (evC Φ (.one c b) d env) g := by
  rw [z_c1, show evE Φ b env = _ from h, bind_ok]
  exact hg.flt
theorem x_lci {Φ : Phi} {env : Env} {α : Type} {own : List Nat} {tt : T} {it : I} {elt : E} {e : α → D} {t : R (List α)} (env1 : α → Env) (h : Rf (List.map e) (evI Φ it env) t) (ha : ∀ a, asgT tt (e a) (wipeS env own) = some (env1 a)) (hg : ∀ a, Rf e (evE Φ elt (env1 a)) (.ok a)) :
    Rf (eL e) (evE Φ (.lc own tt it .no elt) env) (t.bind fun l => .ok l) := by
  refine Rf.to ?_ (x_lca (g := fun a => a) env1 h ha hg)
  congr 1
  funext l
  rw [List.map_id']
def idxOf {α : Type} [DecidableEq α] (l : List α) (a : α) (k : Int) : Option Int := match l with
  | [] => none
  | z :: r => if z = a then some k else idxOf r a (k + 1)
def Tr.isBool : Tr → R Bool
  | .leaf _ => .ok false
  | .node _ _ => .st
def Tr.len : Tr → R Int
  | .leaf _ => .st
  | .node _ _ => .ok 2
theorem b_isIntTt {α : Type} {e : α → D} (l : List α) : Rf eB (evBi .isInt [eT e l]) (.ok false) := rfl
theorem b_isStrTt {α : Type} {e : α → D} (l : List α) : Rf eB (evBi .isStr [eT e l]) (.ok false) := rfl
end PC
set_option Elab.async false
set_option linter.all false
namespace PC
open PySem PySem.Spec PyProof.Rows L2
section
variable {σ ρ J β : Type} {er : ρ → D} {X : Env → Prop} {mk : σ → J → Env} {Φ : Phi} {fu : Nat} {env : Env} {i : Nat} {e a b : E} {r : List S}
def setL (l : List β) (z : Int) (v : β) (k : List β → Fl σ ρ) : Fl σ ρ := match L2.ixN l.length z with
  | some j => k (l.set j v)
  | none => .st
theorem Sim.setIx {e' : β → D} {l : List β} {t : R β} {tk : R Int} {k : List β → Fl σ ρ} (hfl : ∀ a, flat (e' a) = true) (env' : List β → Env) (h : Rf e' (evE Φ b env) t) (ha : Rf eI (evE Φ a env) tk) (hx : X env) (hg : geti env i = .o (eL e' l))
    (he : ∀ a, sets env i (.o (eL e' a)) = env' a) (hk : ∀ a, Sim er X mk (evSs Φ fu r (env' a)) (k a)) : Sim er X mk (evSs Φ fu (.setIx i a b :: r) env) (letR t fun v => letR tk fun z => setL l z v k) := by
  rw [z_go]
  simp only [evS, hg, onR_cons]
  refine Sim.onR h hx fun v => ?_
  refine Sim.onR ha hx fun z => ?_
  simp only [shr, if_pos (hfl v), hg, eL]
  unfold setL
  rw [List.length_map]
  cases L2.ixN l.length z with
  | none => trivial
  | some j =>
    have e1 : sets env i (.o (.list ((l.map e').set j (e' v)))) = env' (l.set j v) := by
      rw [← he]; simp [eL, List.map_set]
    simp only [e1]
    exact hk _
end
section
variable {α β γ : Type} {Φ : Phi} {env : Env}
theorem Rf.orR {δ ε ζ : Type} {e : ε → ζ} {a b : R δ} {g : δ → R ζ} {t : R ε} (h : Rf e (a.bind g) t) : Rf e ((R.orR a b).bind g) t := by
  cases t with
  | st => trivial
  | ok x => cases a with
    | st => cases h
    | _ => exact h
  | ex c => cases a with
    | st => cases h
    | _ => exact h
end
end PC
set_option Elab.async false
set_option linter.all false
namespace PC
open PySem PySem.Spec PyProof.Rows L2
end PC
set_option Elab.async false
set_option linter.all false
namespace PC
open PySem PySem.Spec PyProof.Rows L2
/-- what a call of a procedure leaves -/
def prcR {α σ ρ : Type} (r : R (List α)) (k : List α → Fl σ ρ) : Fl σ ρ := match r with
  | .ok m => k m
  | _ => .st
@[simp] theorem prcR_ok {α σ ρ : Type} {m : List α} {k : List α → Fl σ ρ} : prcR (.ok m) k = k m := rfl
/-- the list that a procedure's body leaves -/
def Fl.out {α : Type} (t : Fl (List α) Unit) : R (List α) := match t with
  | .nx s => .ok s
  | _ => .st
@[simp] theorem out_nx {α : Type} {s : List α} : (Fl.nx s : Fl (List α) Unit).out = .ok s := rfl
section
variable {σ ρ J α β γ : Type} {er : ρ → D} {X : Env → Prop} {mk : σ → J → Env} {Φ : Phi} {fu : Nat} {env : Env} {i : Nat} {e : E} {r : List S}
theorem Sim.prc {e' : β → D} {enc : α → D} {l : List β} {t : R α} {f : Str} {g : α → List β → R (List β)} {k : List β → Fl σ ρ} (env' : List β → Env) (h : Rf enc (evE Φ e env) t) (hx : X env) (hf : frzS e.vars 0 env = env) (hg : geti env i = .o (eL e' l))
    (hp : ∀ a l, Rf (eL e') (Φ f [enc a, eL e' l]) (g a l)) (he : ∀ a, sets env i (.o (eL e' a)) = env' a) (hk : ∀ a, Sim er X mk (evSs Φ fu r (env' a)) (k a)) : Sim er X mk (evSs Φ fu (.prc f e i :: r) env) (letR t fun a => prcR (g a l) k) := by
  rw [z_go]
  simp only [evS, hg, onR_cons]
  refine Sim.onR h hx fun a => ?_
  simp only [hf, hg, eL]
  have h2 := hp a l
  cases q : g a l with
  | ok m =>
    rw [q] at h2
    rw [show Φ f [enc a, PyData.list (l.map e')] = .ok (PyData.list (m.map e')) from h2]
    simp only [go_nx]
    rw [show sets env i (.o (PyData.list (m.map e'))) = env' m from he m]
    exact hk m
  | ex c => trivial
  | st => trivial
end
def leTL (a b : List Int) : Bool := decide (a ≤ b)
def sortTL (l : List (List Int)) : R (List (List Int)) := if l.all (fun ns => !ns.isEmpty) = true then .ok (l.mergeSort leTL) else .st
end PC
set_option Elab.async false
set_option linter.all false
namespace PC
open PySem PySem.Spec PyProof.Rows L2
/-- what visits and equal_visits tell -/
inductive Vs where
  | hours (l : List (Int × Int)) | ring (r : List Int) | three (p : List Int) (w : List (List Int)) | equal (n : Int) (c : List Int) | claw (p : Int) (t : List Int)
def Vs.len : Vs → Int
  | .hours _ => 2
  | .ring _ => 2
  | _ => 3
end PC
set_option Elab.async false
set_option linter.all false
namespace PC
open PySem PySem.Spec PyProof.Rows L2
end PC
set_option Elab.async false
set_option linter.all false
namespace PC
open PySem PySem.Spec PyProof.Rows L2
/-- the words that are drawn -/
inductive Wd where
  | any | row | all | no | cap
  deriving DecidableEq
def eQ : Wd → D
  | .any => .str "any"
  | .row => .str "row"
  | .all => .str "all"
  | .no => .str ""
  | .cap => .str "Any"
theorem flQ (w : Wd) : flat (eQ w) = true := by cases w <;> rfl
theorem q_Q : Eqe eQ 0 := ⟨fun a => by cases a <;> decide +kernel, fun a => by cases a <;> exact Nat.le_refl _, fun a b => by cases a <;> cases b <;> rfl⟩
inductive Bt where
  | leaf (i : Int) | node (w : Wd) (ps : List Bt) (x : Bool)
def moreD (x : Bool) : List D := if x then [.tuple []] else []
mutual
def eBt : Bt → D
  | .leaf i => .int i
  | .node w ps x => .tuple (eQ w :: .tuple (eBts ps) :: moreD x)
def eBts : List Bt → List D
  | [] => []
  | t :: r => eBt t :: eBts r
end
theorem eBts_map : ∀ l : List Bt, eBts l = l.map eBt
  | [] => rfl
  | t :: r => by rw [eBts, eBts_map r]; rfl
mutual
theorem flBt : ∀ t : Bt, flat (eBt t) = true
  | .leaf i => rfl
  | .node w ps x => by
    show (flat (eQ w) && (flatAll (eBts ps) && flatAll (moreD x))) = true
    rw [flBts ps, flQ]
    cases x <;> rfl
theorem flBts : ∀ l : List Bt, flatAll (eBts l) = true
  | [] => rfl
  | t :: r => by
    show (flat (eBt t) && flatAll (eBts r)) = true
    rw [flBt t, flBts r]; rfl
end
def Bt.isLeaf : Bt → Bool
  | .leaf _ => true
  | .node _ _ _ => false
def Bt.thing : Bt → R Int
  | .leaf i => .ok i
  | .node _ _ _ => .st
def Bt.word : Bt → R Wd
  | .leaf _ => .st
  | .node w _ _ => .ok w
def Bt.parts : Bt → R (List Bt)
  | .leaf _ => .st
  | .node _ ps _ => .ok ps
def Bt.len : Bt → R Int
  | .leaf _ => .st
  | .node _ _ x => .ok (if x then 3 else 2)
mutual
/-- a tree -/
def toBt : Tr → Bt
  | .leaf i => .leaf i
  | .node w ps => .node (if w then .any else .row) (toBts ps) false
def toBts : List Tr → List Bt
  | [] => []
  | t :: r => toBt t :: toBts r
end
theorem toBts_map : ∀ l : List Tr, toBts l = l.map toBt
  | [] => rfl
  | t :: r => by rw [toBts, toBts_map r]; rfl
theorem co_leafB (a : Int) : eI a = eBt (.leaf a) := by rw [eBt]
mutual
theorem co_trB : ∀ t : Tr, eTr t = eBt (toBt t)
  | .leaf i => by rw [eTr, toBt, eBt]
  | .node w ps => by
    rw [eTr, toBt, eBt, co_trBs ps]
    cases w <;> rfl
theorem co_trBs : ∀ l : List Tr, eTrs l = eBts (toBts l)
  | [] => by rw [eTrs, toBts, eBts]
  | t :: r => by rw [eTrs, toBts, eBts, co_trB t, co_trBs r]
end
theorem cp_thingB (a : Bt) : Rf eI (.ok (eBt a)) (Bt.thing a) := by
  cases a with
  | leaf i => show R.ok (eBt (.leaf i)) = .ok (eI i); rw [eBt]
  | node w ps x => trivial
section
variable {Φ : Phi} {env : Env}
theorem x_qany : Rf eQ (evE Φ (.str "any") env) (.ok .any) := by rw [z_e_str]; rfl
theorem x_qrow : Rf eQ (evE Φ (.str "row") env) (.ok .row) := by rw [z_e_str]; rfl
theorem x_qall : Rf eQ (evE Φ (.str "all") env) (.ok .all) := by rw [z_e_str]; rfl
theorem x_qno : Rf eQ (evE Φ (.str "") env) (.ok .no) := by rw [z_e_str]; rfl
theorem x_qcap : Rf eQ (evE Φ (.str "Any") env) (.ok .cap) := by rw [z_e_str]; rfl
theorem x_nodeB {a b : E} {t : R Wd} {u : R (List Bt)} (h : Rf eQ (evE Φ a env) t) (h' : Rf (eT eBt) (evE Φ b env) u) : Rf eBt (evE Φ (.tup (.cons a (.cons b .nil))) env) (t.bind fun x => u.bind fun y => .ok (.node x y false)) := by
  refine Rf.to ?_ (x_co (e' := eBt) (f := fun p : Wd × List Bt => Bt.node p.1 p.2 false) (x_tup2 h h') fun p => by rw [eBt, eBts_map]; rfl)
  cases t with
  | ok x => cases u <;> rfl
  | ex c => rfl
  | st => rfl
theorem x_tupE : Rf (fun _ : Unit => PyData.tuple []) (evE Φ (.tup .nil) env) (.ok ()) := by
  rw [z_e_tup, z_es0]; rfl
theorem x_nodeB3 {a b : E} {t : R Wd} {u : R (List Bt)} (h : Rf eQ (evE Φ a env) t) (h' : Rf (eT eBt) (evE Φ b env) u) : Rf eBt (evE Φ (.tup (.cons a (.cons b (.cons (.tup .nil) .nil)))) env) (t.bind fun x => u.bind fun y => .ok (.node x y true)) := by
  refine Rf.to ?_ (x_co (e' := eBt) (f := fun p : Wd × List Bt × Unit => Bt.node p.1 p.2.1 true) (x_tup3 h h' x_tupE) fun p => by rw [eBt, eBts_map]; rfl)
  cases t with
  | ok x => cases u <;> rfl
  | ex c => rfl
  | st => rfl
theorem x_wordB {a : E} {t : R Bt} (h : Rf eBt (evE Φ a env) t) : Rf eQ (evE Φ (.ix a (.int 0)) env) (t.bind Bt.word) := by
  rw [z_e_ix]
  refine Rf.bind h fun p => ?_
  rw [z_e_int]
  cases p with
  | leaf i => trivial
  | node w ps x => rw [eBt]; cases x <;> rfl
theorem x_partsB {a : E} {t : R Bt} (h : Rf eBt (evE Φ a env) t) : Rf (eT eBt) (evE Φ (.ix a (.int 1)) env) (t.bind Bt.parts) := by
  rw [z_e_ix]
  refine Rf.bind h fun p => ?_
  rw [z_e_int]
  cases p with
  | leaf i => trivial
  | node w ps x => rw [eBt, eBts_map]; cases x <;> rfl
end
theorem b_ninQ (w : Wd) : Rf eB (evBi (.ninC [.str "any", .str "row"]) [eQ w]) (.ok (!decide (w = .any ∨ w = .row))) := by
  show (if SeqAt.shaped (eQ w) && SeqAt.shaped (eT eQ [.any, .row]) then R.ok (PyData.bool _) else .st) = _
  rw [q_sh q_Q (by decide) w, q_sh (q_T q_Q) (by decide) [.any, .row]]
  cases w <;> rfl
theorem b_isIntBt (t : Bt) : Rf eB (evBi .isInt [eBt t]) (.ok t.isLeaf) := by
  cases t with
  | leaf i => rw [eBt]; rfl
  | node w ps x => rw [eBt]; rfl
theorem b_lenBt (t : Bt) : Rf eI (evBi .len [eBt t]) t.len := by
  cases t with
  | leaf i => trivial
  | node w ps x => rw [eBt]; cases x <;> rfl
def eqBtB (a b : Bt) : R Bool := if SeqAt.shaped (eBt a) && SeqAt.shaped (eBt b) then .ok (PyData.eqv (eBt a) (eBt b)) else .st
theorem m_eqBt (a b : Bt) : Rf eJ (evCm .eq (eBt a) (eBt b)) (eqBtB a b) := by
  show Rf eJ (eqD (eBt a) (eBt b)) _
  unfold eqD eqBtB
  by_cases c : (SeqAt.shaped (eBt a) && SeqAt.shaped (eBt b)) = true
  · rw [if_pos c, if_pos (by rw [c, Bool.or_true])]; rfl
  · rw [if_neg c]; trivial
end PC
set_option Elab.async false
set_option linter.all false
set_option maxRecDepth 100000
namespace PC
open PySem
def f_is_size : Nat → Int → R Bool
  | 0, _ => .st
  | k + 1, n => Fl.run (
    letR (.ok (decide (1 ≤ n) && (decide (n ≤ 24)))) fun v => .rt v) .st
def f_law_cell : Nat → (List Int) → Int → R Int
  | 0, _, _ => .st
  | k + 1, script, k_ => Fl.run (
    cnd (.ok (decide (k_ < ((script).length : Int))))
      (letR (atL script k_) fun v => .rt v)
      (letR (.ok 0) fun v => .rt v)) .st
def f_law_digits : Nat → Int → (List Int) → R (List Int)
  | 0, _, _ => .st
  | k + 1, cell_here, sizes => Fl.run (
    letR (.ok ([] : (List Int))) fun row =>
    Fl.seq (letR (.ok sizes) fun l => forL l (cell_here, row) fun size (s1 : Int × (List Int)) =>
      letR (tmod s1.1 size) fun t => appL s1.2 t fun row1 =>
      letR (tdiv s1.1 size) fun cell_here1 =>
      .nx (cell_here1, row1)) fun (s1 : Int × (List Int)) =>
    letR (.ok s1.2) fun v => .rt v) .st
def f_law_rich : Nat → Int → R Int
  | 0, _ => .st
  | k + 1, cell_here => Fl.run (
    cnd (((tpow 10 18)).bind fun t => .ok (decide (t ≤ cell_here)))
      (letR (.ok cell_here) fun v => .rt v)
      (letR (((((((tmul cell_here 48271)).bind fun t1 => .ok (t1 + 11))).bind fun t2 => .ok t2)).bind fun t3 => (tmod t3 2147483647)) fun low =>
    letR (((((((((tmul low 69621)).bind fun t4 => ((tdiv cell_here 7)).bind fun t5 => .ok (t4 + t5))).bind fun t6 => .ok (t6 + 5))).bind fun t7 => .ok t7)).bind fun t8 => (tmod t8 2147483629)) fun high =>
    letR (((tmul low 2147483629)).bind fun t9 => .ok (t9 + high)) fun v => .rt v)) .st
def f_law_order : Nat → Int → Int → R (List Int)
  | 0, _, _ => .st
  | k + 1, cell_here, n => Fl.run (
    letR (((rng 0 n)).bind fun t => .ok t) fun left =>
    letR (f_law_rich k cell_here) fun rest =>
    letR (.ok ([] : (List Int))) fun order_here =>
    Fl.seq (letR (rng 0 n) fun l => forL l (left, rest, order_here) fun k_ (s1 : (List Int) × Int × (List Int)) =>
      letR (tmod s1.2.1 (n - k_)) fun t1 => appPopL s1.1 s1.2.2 t1 fun left1 order_here1 =>
      letR (tdiv s1.2.1 (n - k_)) fun rest1 =>
      Fl.seq (cnd (.ok (decide (rest1 = 0)))
        (letR (f_law_rich k ((cell_here + k_) + 1)) fun rest2 =>
        .nx (rest2))
        (.nx (rest1))) fun (s2 : Int) =>
      .nx (left1, s2, order_here1)) fun (s1 : (List Int) × Int × (List Int)) =>
    letR (.ok s1.2.2) fun v => .rt v) .st
def f_is_thing_2 : Nat → Bt → R Bool
  | 0, _ => .st
  | k + 1, tree => Fl.run (
    letR (.ok (Bt.isLeaf tree)) fun v => .rt v) .st
def f_is_thing_3 : Nat → (List Bt) → R Bool
  | 0, _ => .st
  | k + 1, tree => Fl.run (
    letR (.ok false) fun v => .rt v) .st
def f_listed_1 : Nat → Bt → R (List Int)
  | 0, _ => .st
  | k + 1, tree => Fl.run (
    cnd (f_is_thing_2 k tree)
      (letR (((Bt.thing tree)).bind fun t => .ok [t]) fun v => .rt v)
      (letR (.ok ([] : (List Int))) fun found =>
    Fl.seq (letR (((Bt.parts tree)).bind fun t1 => .ok t1) fun l => forL l (found) fun part (s1 : (List Int)) =>
      letR (f_listed_1 k part) fun t2 => extL s1 t2 fun found1 =>
      .nx (found1)) fun (s1 : (List Int)) =>
    letR (.ok s1) fun v => .rt v)) .st
def f_has_form_1 : Nat → Bt → R Bool
  | 0, _ => .st
  | k + 1, tree => Fl.run (
    cnd (f_is_thing_2 k tree)
      (letR (.ok true) fun v => .rt v)
      (cnd (((((Bt.len tree)).bind fun t => .ok (!decide (t = 2)))).bind fun t6 => (if t6 then .ok true else (((((Bt.word tree)).bind fun t1 => .ok (!decide (t1 = .any ∨ t1 = .row)))).bind fun t5 => (if t5 then .ok true else (((((Bt.parts tree)).bind fun t2 => (f_is_thing_3 k t2))).bind fun t4 => (if t4 then .ok true else (((Bt.parts tree)).bind fun t3 => .ok false)))))))
      (letR (.ok false) fun v => .rt v)
      (cnd (((((((Bt.parts tree)).bind fun t7 => .ok ((t7).length : Int))).bind fun t8 => .ok (decide (t8 < 2)))).bind fun t13 => (if t13 then .ok true else (((((Bt.word tree)).bind fun t9 => .ok (decide (t9 = (Wd.row))))).bind fun t12 => (if t12 then (((((Bt.parts tree)).bind fun t10 => .ok ((t10).length : Int))).bind fun t11 => .ok (decide (t11 < 3))) else .ok false))))
      (letR (.ok false) fun v => .rt v)
      (letR (((((((Bt.parts tree)).bind fun t14 => .ok t14)).bind fun t15 => (mapR (fun part => (f_has_form_1 k part)) t15))).bind fun t16 => .ok ((t16).all id)) fun v => .rt v)))) .st
def f_check_tree_1 : Nat → Int → Bt → R Bt
  | 0, _, _ => .st
  | k + 1, n, tree => Fl.run (
    cnd (((((f_is_size k n)).bind fun t => .ok (!t))).bind fun t6 => (if t6 then .ok true else (((((f_has_form_1 k tree)).bind fun t1 => .ok (!t1))).bind fun t5 => (if t5 then .ok true else (((((f_listed_1 k tree)).bind fun t2 => .ok (isort t2))).bind fun t3 => ((rng 0 n)).bind fun t4 => .ok (!decide (t3 = t4)))))))
      (.ex "InvalidTree")
      (letR (.ok tree) fun v => .rt v)) .st
def f_things_of_1 : Nat → Bt → R (List Int)
  | 0, _ => .st
  | k + 1, tree => Fl.run (
    cnd (((f_has_form_1 k tree)).bind fun t => .ok (!t))
      (.ex "InvalidTree")
      (letR (((((f_listed_1 k tree)).bind fun t1 => .ok (isort t1))).bind fun t2 => .ok t2) fun found =>
    cnd (((((atL found 0)).bind fun t3 => .ok (decide (t3 < 0)))).bind fun t5 => (if t5 then .ok true else (((lenSetR found)).bind fun t4 => .ok (decide (t4 < ((found).length : Int))))))
      (.ex "InvalidTree")
      (letR (.ok found) fun v => .rt v))) .st
def f_law_things : Nat → Tr → R (List Int)
  | 0, _ => .st
  | k + 1, tree_here => Fl.run (
    cnd (.ok (Tr.isLeaf tree_here))
      (letR (((Tr.thing tree_here)).bind fun t => .ok [t]) fun v => .rt v)
      (letR (.ok ([] : (List Int))) fun found =>
    Fl.seq (letR (((Tr.parts tree_here)).bind fun t1 => .ok t1) fun l => forL l (found) fun part (s2 : (List Int)) =>
      letR (((f_law_things k part)).bind fun t2 => (catL s2 t2)) fun found1 =>
      .nx (found1)) fun (s2 : (List Int)) =>
    letR (.ok s2) fun v => .rt v)) .st
def f_law_things_1 : Nat → Bt → R (List Int)
  | 0, _ => .st
  | k + 1, tree_here => Fl.run (
    cnd (.ok (Bt.isLeaf tree_here))
      (letR (((Bt.thing tree_here)).bind fun t => .ok [t]) fun v => .rt v)
      (letR (.ok ([] : (List Int))) fun found =>
    Fl.seq (letR (((Bt.parts tree_here)).bind fun t1 => .ok t1) fun l => forL l (found) fun part (s2 : (List Int)) =>
      letR (((f_law_things_1 k part)).bind fun t2 => (catL s2 t2)) fun found1 =>
      .nx (found1)) fun (s2 : (List Int)) =>
    letR (.ok s2) fun v => .rt v)) .st
def f_law_tree : Nat → Int → Int → R Tr
  | 0, _, _ => .st
  | k + 1, cell_here, n => Fl.run (
    letR ((((f_law_order k cell_here n)).bind fun t => .ok t).bind fun a => .ok ((List.map Tr.leaf) a)) fun parts =>
    letR (((((tdiv cell_here 3)).bind fun t1 => .ok (t1 + 7))).bind fun t2 => (f_law_rich k t2)) fun rest =>
    Fl.seq (letR (rng 0 30) fun l => forL l (parts, rest) fun step (s2 : (List Tr) × Int) =>
      cnd (.ok (decide (((s2.1).length : Int) < 2)))
        (.bk (s2.1, s2.2))
        (letR (((tmod s2.2 4)).bind fun t3 => .ok (2 + t3)) fun size =>
      Fl.seq (cnd (((((((tdiv s2.2 1024)).bind fun t4 => .ok t4)).bind fun t5 => (tmod t5 8))).bind fun t6 => .ok (decide (t6 = 5)))
        (letR (.ok 24) fun size1 =>
        .nx (size1))
        (.nx (size))) fun (s3 : Int) =>
      letR (((((tdiv s2.2 4)).bind fun t7 => .ok t7)).bind fun t8 => (tmod t8 ((s2.1).length : Int))) fun at_ =>
      letR (.ok (cutL s2.1 (some at_) (some (at_ + s3)))) fun chosen =>
      Fl.seq (cnd (.ok (decide (1 < ((chosen).length : Int))))
        (letR (.ok true) fun word =>
        Fl.seq (cnd (if (decide (2 < ((chosen).length : Int))) then (((((((tdiv s2.2 64)).bind fun t9 => .ok t9)).bind fun t10 => (tmod t10 2))).bind fun t11 => .ok (decide (t11 = 1))) else .ok false)
          (letR (.ok false) fun word1 =>
          .nx (word1))
          (.nx (word))) fun (s5 : Bool) =>
        letR (((catL (cutL s2.1 none (some at_)) [(Tr.node s5 chosen)])).bind fun t12 => (catL t12 (cutL s2.1 (some (at_ + s3)) none))) fun parts1 =>
        .nx (parts1))
        (.nx (s2.1))) fun (s4 : (List Tr)) =>
      letR (((((tdiv s2.2 5)).bind fun t13 => ((tmul 1000003 step)).bind fun t14 => .ok (t13 + t14))).bind fun t15 => .ok (t15 + 17)) fun rest1 =>
      .nx (s4, rest1))) fun (s2 : (List Tr) × Int) =>
    Fl.seq (cnd (.ok (decide (1 < ((s2.1).length : Int))))
      (letR (.ok [(Tr.node true s2.1)]) fun parts2 =>
      .nx (parts2))
      (.nx (s2.1))) fun (s6 : (List Tr)) =>
    letR (atL s6 0) fun v => .rt v) .st
def f_law_has_form : Nat → Bt → R Bool
  | 0, _ => .st
  | k + 1, tree_here => Fl.run (
    cnd (.ok (Bt.isLeaf tree_here))
      (letR (.ok true) fun v => .rt v)
      (letR (((((((Bt.parts tree_here)).bind fun t => .ok ((t).length : Int))).bind fun t4 => ((((((((Bt.word tree_here)).bind fun t1 => .ok (decide (t1 = (Wd.row))))).bind fun t2 => .ok (if t2 then (1 : Int) else 0))).bind fun t3 => .ok (2 + t3))).bind fun t5 => .ok (decide (t5 ≤ t4)))).bind fun t10 => (if t10 then (((((((Bt.parts tree_here)).bind fun t6 => .ok t6)).bind fun t8 => (compR (fun part => (((f_law_has_form k part)).bind fun t7 => .ok (!t7))) (fun part => (.ok part)) t8))).bind fun t9 => (eqNil eBt t9)) else .ok false)) fun v => .rt v)) .st
def f_law_bent_2 : Nat → Bt → Int → R Bt
  | 0, _, _ => .st
  | k + 1, tree_here, rest => Fl.run (
    letR (tmod rest 8) fun kind =>
    cnd (.ok (Bt.isLeaf tree_here))
      (letR ((((((((Bt.thing tree_here)).bind fun t => .ok (t + 1)).bind fun a => .ok (Bt.leaf a))).bind fun t5 => (((((Bt.thing tree_here)).bind fun t1 => .ok (t1 - 1)).bind fun a => .ok (Bt.leaf a))).bind fun t6 => (((((((((Bt.thing tree_here)).bind fun t2 => .ok (t2 + 1)).bind fun a => .ok (Bt.leaf a))).bind fun t3 => .ok [tree_here, t3])).bind fun t4 => .ok (Bt.node (Wd.row) t4 false))).bind fun t7 => .ok [t5, t6, (Bt.node (Wd.any) [tree_here] false), (Bt.node (Wd.any) [tree_here, tree_here] false), tree_here, (Bt.leaf 0), t7, (Bt.leaf (-1))])).bind fun t8 => (atL t8 kind)) fun v => .rt v)
      (cnd (.ok (decide (kind = 0)))
      (letR (((((((((tdiv rest 8)).bind fun t9 => .ok t9)).bind fun t10 => (tmod t10 5))).bind fun t11 => (atL [(Wd.all), (Wd.no), (Wd.cap), (Wd.row), (Wd.any)] t11))).bind fun t12 => ((Bt.parts tree_here)).bind fun t13 => .ok (Bt.node t12 t13 false)) fun v => .rt v)
      (cnd (.ok (decide (kind = 1)))
      (letR (((Bt.word tree_here)).bind fun t15 => ((((Bt.parts tree_here)).bind fun t14 => .ok (cutL t14 (some 1) none))).bind fun t16 => .ok (Bt.node t15 t16 false)) fun v => .rt v)
      (cnd (.ok (decide (kind = 2)))
      (letR (((Bt.word tree_here)).bind fun t20 => ((((Bt.parts tree_here)).bind fun t18 => ((((Bt.parts tree_here)).bind fun t17 => .ok (cutL t17 none (some 1)))).bind fun t19 => (catL t18 t19))).bind fun t21 => .ok (Bt.node t20 t21 false)) fun v => .rt v)
      (cnd (if (decide (kind = 3)) then (((((((tdiv rest 8)).bind fun t22 => .ok t22)).bind fun t23 => (tmod t23 3))).bind fun t24 => .ok (decide (t24 = 0))) else .ok false)
      (letR (((Bt.word tree_here)).bind fun t25 => ((Bt.parts tree_here)).bind fun t26 => .ok (Bt.node t25 t26 true)) fun v => .rt v)
      (letR (((((tdiv rest 8)).bind fun t27 => .ok t27)).bind fun t29 => ((((Bt.parts tree_here)).bind fun t28 => .ok ((t28).length : Int))).bind fun t30 => (tmod t29 t30)) fun at_ =>
    letR (((Bt.word tree_here)).bind fun t42 => ((((((((Bt.parts tree_here)).bind fun t31 => .ok (cutL t31 none (some at_)))).bind fun t37 => ((((((((Bt.parts tree_here)).bind fun t33 => (atL t33 at_))).bind fun t34 => ((tdiv rest 64)).bind fun t35 => (f_law_bent_2 k t34 t35))).bind fun t36 => .ok [t36])).bind fun t38 => (catL t37 t38))).bind fun t40 => ((((Bt.parts tree_here)).bind fun t39 => .ok (cutL t39 (some (at_ + 1)) none))).bind fun t41 => (catL t40 t41))).bind fun t43 => .ok (Bt.node t42 t43 false)) fun v => .rt v)))))) .st
def f_law_shuffled : Nat → Tr → Int → R Tr
  | 0, _, _ => .st
  | k + 1, tree_here, cell_here => Fl.run (
    cnd (.ok (Tr.isLeaf tree_here))
      (letR (.ok tree_here) fun v => .rt v)
      (letR (.ok ([] : (List Tr))) fun parts =>
    letR (f_law_rich k cell_here) fun rest =>
    Fl.seq (letR (((Tr.parts tree_here)).bind fun t => .ok t) fun l => forL l (parts, rest) fun part (s1 : (List Tr) × Int) =>
      letR (((((tdiv s1.2 3)).bind fun t1 => .ok (t1 + 5))).bind fun t2 => (f_law_shuffled k part t2)) fun told =>
      Fl.seq (cnd (((Tr.word tree_here)).bind fun t3 => .ok t3)
        (letR (tmod s1.2 (((s1.1).length : Int) + 1)) fun t4 => letR (.ok told) fun t5 => insL s1.1 t4 t5 fun parts1 =>
        .nx (parts1))
        (letR (.ok told) fun t6 => appL s1.1 t6 fun parts2 =>
        .nx (parts2))) fun (s2 : (List Tr)) =>
      letR (((tdiv s1.2 7)).bind fun t7 => .ok (t7 + 99)) fun rest1 =>
      .nx (s2, rest1)) fun (s1 : (List Tr) × Int) =>
    Fl.seq (cnd (((((Tr.word tree_here)).bind fun t8 => .ok (!t8))).bind fun t10 => (if t10 then (((tmod cell_here 2)).bind fun t9 => .ok (decide (t9 = 1))) else .ok false))
      (letR (.ok (List.reverse s1.1)) fun parts3 =>
      .nx (parts3))
      (.nx (s1.1))) fun (s3 : (List Tr)) =>
    letR (((Tr.word tree_here)).bind fun t11 => .ok (Tr.node t11 s3)) fun v => .rt v)) .st
def f_law_told : Nat → Tr → (List Int) → R Bool
  | 0, _, _ => .st
  | k + 1, tree_here, order_here => Fl.run (
    cnd (.ok (Tr.isLeaf tree_here))
      (letR (((((Tr.thing tree_here)).bind fun t => .ok [t])).bind fun t1 => .ok (decide (order_here = t1))) fun v => .rt v)
      (letR (.ok order_here) fun rest =>
    letR (.ok ([] : (List Int))) fun sequence =>
    Fl.seq (letR (((((Tr.parts tree_here)).bind fun t2 => .ok ((t2).length : Int))).bind fun t3 => (rng 0 t3)) fun l1 => forL l1 (rest, sequence) fun step (s1 : (List Int) × (List Int)) =>
      Fl.seq (letR (((((Tr.parts tree_here)).bind fun t4 => .ok ((t4).length : Int))).bind fun t5 => (rng 0 t5)) fun l => forL l (s1.1, s1.2) fun k_ (s3 : (List Int) × (List Int)) =>
        letR (((((((Tr.parts tree_here)).bind fun t6 => (atL t6 k_))).bind fun t7 => (f_law_things k t7))).bind fun t8 => .ok ((t8).length : Int)) fun size =>
        cnd (if (!memB k_ s3.2) then (((((((((Tr.parts tree_here)).bind fun t9 => (atL t9 k_))).bind fun t10 => (f_law_things k t10))).bind fun t11 => .ok (isort t11))).bind fun t12 => .ok (decide ((isort (cutL s3.1 none (some size))) = t12))) else .ok false)
          (cnd (((((((Tr.parts tree_here)).bind fun t13 => (atL t13 k_))).bind fun t14 => (f_law_told k t14 (cutL s3.1 none (some size))))).bind fun t15 => .ok (!t15))
            (letR (.ok false) fun v => .rt v)
            (letR (.ok k_) fun t16 => appL s3.2 t16 fun sequence1 =>
          letR (.ok (cutL s3.1 (some size) none)) fun rest1 =>
          .bk (rest1, sequence1)))
          (.nx (s3.1, s3.2))) fun (s3 : (List Int) × (List Int)) =>
      .nx (s3.1, s3.2)) fun (s1 : (List Int) × (List Int)) =>
    cnd (((((((Tr.parts tree_here)).bind fun t17 => .ok ((t17).length : Int))).bind fun t18 => .ok (decide (((s1.2).length : Int) < t18)))).bind fun t19 => .ok (t19 || (decide (0 < ((s1.1).length : Int)))))
      (letR (.ok false) fun v => .rt v)
      (letR (((((Tr.word tree_here)).bind fun t20 => .ok t20)).bind fun t21 => .ok (t21 || ((decide (s1.2 = (isort s1.2))) || (decide (s1.2 = (List.reverse (isort s1.2))))))) fun v => .rt v))) .st
def f_law_drawn_order : Nat → Tr → Int → R (List Int)
  | 0, _, _ => .st
  | k + 1, tree_here, cell_here => Fl.run (
    cnd (.ok (Tr.isLeaf tree_here))
      (letR (((Tr.thing tree_here)).bind fun t => .ok [t]) fun v => .rt v)
      (letR (.ok ([] : (List Int))) fun order_here =>
    Fl.seq (letR (((((f_law_shuffled k tree_here cell_here)).bind fun t1 => (Tr.parts t1))).bind fun t2 => .ok t2) fun l => forL l (order_here) fun part (s1 : (List Int)) =>
      letR (((((((tdiv cell_here 3)).bind fun t3 => .ok (t3 + 11))).bind fun t4 => (f_law_drawn_order k part t4))).bind fun t5 => (catL s1 t5)) fun order_here1 =>
      .nx (order_here1)) fun (s1 : (List Int)) =>
    letR (.ok s1) fun v => .rt v)) .st
end PC
set_option Elab.async false
set_option linter.all false
set_option maxRecDepth 100000
namespace PC
open PySem
@[simp] theorem bnd_ok {α β : Type} {a : α} {f : α → R β} : (R.ok a).bind f = f a := rfl
section
variable {α β σ ρ : Type} {f : α → σ → Fl σ ρ}
theorem seq_gen {σ' : Type} {l : List α} {s0 : σ} {K : σ → Fl σ' ρ} {G : Fl σ' ρ → Prop} (P : Nat → σ → Prop) (h0 : P 0 s0)
    (hs : ∀ i (h : i < l.length) s, P i s → (∃ s', f l[i] s = .nx s' ∧ P (i + 1) s') ∨ (∃ s', f l[i] s = .bk s' ∧ G (K s')) ∨ (∃ v, f l[i] s = .rt v ∧ G (.rt v)) ∨ ∃ c, f l[i] s = .ex c ∧ G (.ex c)) (hK : ∀ s, P l.length s → G (K s)) : G (Fl.seq (forL l s0 f) K) := by
  induction l generalizing P s0 with
  | nil => exact hK s0 h0
  | cons a l ih =>
    rw [forL_cons]
    rcases hs 0 (by simp) s0 h0 with ⟨s1, e1, h1⟩ | ⟨s1, e1, h1⟩ | ⟨v, e1, h1⟩ | ⟨c, e1, h1⟩
    · simp only [List.getElem_cons_zero] at e1
      rw [e1]
      exact ih (fun i => P (i + 1)) h1 (fun i h s q => by
        have := hs (i + 1) (by simpa using h) s q
        simpa using this) hK
    · simp only [List.getElem_cons_zero] at e1
      rw [e1]; exact h1
    · simp only [List.getElem_cons_zero] at e1
      rw [e1]; exact h1
    · simp only [List.getElem_cons_zero] at e1
      rw [e1]; exact h1
theorem seq_inv {σ' : Type} {l : List α} {s0 : σ} {K : σ → Fl σ' ρ} {G : Fl σ' ρ → Prop} (P : Nat → σ → Prop) (h0 : P 0 s0)
    (hs : ∀ i (h : i < l.length) s, P i s → ∃ s', f l[i] s = .nx s' ∧ P (i + 1) s') (hK : ∀ s, P l.length s → G (K s)) : G (Fl.seq (forL l s0 f) K) :=
  seq_gen P h0 (fun i h s q => .inl (hs i h s q)) hK
theorem seq_brk {σ' : Type} {l : List α} {s0 : σ} {K : σ → Fl σ' ρ} {G : Fl σ' ρ → Prop} (P : Nat → σ → Prop) (B : σ → Prop) (h0 : P 0 s0)
    (hs : ∀ i (h : i < l.length) s, P i s → (∃ s', f l[i] s = .nx s' ∧ P (i + 1) s') ∨ ∃ s', f l[i] s = .bk s' ∧ B s') (hK : ∀ s, P l.length s ∨ B s → G (K s)) : G (Fl.seq (forL l s0 f) K) :=
  seq_gen P h0 (fun i h s q => by
    rcases hs i h s q with h | ⟨s', h1, h2⟩
    · exact .inl h
    · exact .inr (.inl ⟨s', h1, hK s' (.inr h2)⟩)) fun s h => hK s (.inl h)
theorem mapR_ok {g : α → R β} {h : α → β} : ∀ {l : List α}, (∀ a ∈ l, g a = .ok (h a)) → mapR g l = .ok (l.map h)
  | [], _ => rfl
  | a :: l, q => by
    unfold mapR
    rw [q a List.mem_cons_self, mapR_ok fun b m => q b (List.mem_cons_of_mem _ m)]
    rfl
theorem compR_ok {p : α → R Bool} {g : α → R β} {q : α → Bool} {h : α → β} : ∀ {l : List α}, (∀ a ∈ l, p a = .ok (q a)) → (∀ a ∈ l, q a = true → g a = .ok (h a)) → compR p g l = .ok ((l.filter q).map h)
  | [], _, _ => rfl
  | a :: l, h1, h2 => by
    unfold compR
    rw [h1 a List.mem_cons_self, compR_ok (fun b m => h1 b (List.mem_cons_of_mem _ m)) (fun b m => h2 b (List.mem_cons_of_mem _ m))]
    cases e : q a with
    | true => simp only [h2 a List.mem_cons_self e, List.filter_cons, e, if_true, List.map_cons]
    | false => simp only [List.filter_cons, e, Bool.false_eq_true, if_false]
end
theorem rng_ok {a b : Int} (h1 : -1000000 ≤ a) (h2 : a ≤ 1000000) (h3 : -1000000 ≤ b) (h4 : b ≤ 1000000) : rng a b = .ok (iota a (b - a).toNat) := by
  unfold rng; rw [if_pos (rgOk_ok h1 h2 h3 h4)]
theorem rng0 {n : Nat} (h : n ≤ 1000000) : rng 0 (n : Int) = .ok (iota 0 n) := by
  rw [rng_ok (by omega) (by omega) (by omega) (by omega)]; simp
theorem iota_get? {a : Int} {n i : Nat} : (iota a n)[i]? = if i < n then some (a + i) else none := by
  induction n generalizing a i with
  | zero => simp [iota]
  | succ n ih =>
    cases i with
    | zero => simp [iota]
    | succ i =>
      simp only [iota, List.getElem?_cons_succ, ih, Nat.add_lt_add_iff_right]
      split
      · congr 1; omega
      · rfl
theorem iota_getE {a : Int} {n i : Nat} (h : i < (iota a n).length) : (iota a n)[i] = a + i := by
  have := iota_get? (a := a) (n := n) (i := i)
  rw [iota_len] at h
  rw [if_pos h] at this
  rw [List.getElem?_eq_getElem (by rw [iota_len]; exact h)] at this
  exact Option.some.inj this
theorem iota_nodup (n : Nat) (a : Int) : (iota a n).Nodup := (iota_sorted n a).imp fun h => by omega
theorem atL_nat {α : Type} {l : List α} {i : Nat} {a : α} (h : l[i]? = some a) : atL l (i : Int) = .ok a := by
  have hi := (List.getElem?_eq_some_iff.mp h).1
  unfold atL L2.atI L2.ixN
  simp [hi]
  exact (List.getElem?_eq_some_iff.mp h).2
theorem atL_get {α : Type} {l : List α} {i : Nat} (h : i < l.length) : atL l (i : Int) = .ok l[i] := atL_nat (List.getElem?_eq_getElem h)
theorem atL_int {α : Type} {l : List α} {i : Int} (h0 : 0 ≤ i) (h : i.toNat < l.length) : atL l i = .ok l[i.toNat] := by
  have e : ((i.toNat : Nat) : Int) = i := by omega
  have := atL_get h
  rw [e] at this
  exact this
theorem atL_zero {α : Type} {l : List α} (h : 0 < l.length) : atL l 0 = .ok l[0] := atL_get h
theorem sIx_pos {n : Nat} {d : Nat} {v : Int} (h : 0 ≤ v) : HT.sIx n d (some v) = min v.toNat n := by
  show (if v < 0 then _ else _) = _
  rw [if_neg (by omega)]
theorem cut_drop {α : Type} {l : List α} {a : Int} (h : 0 ≤ a) : cutL l (some a) none = l.drop a.toNat := by
  unfold cutL
  rw [sIx_pos h, HT.sIx_none, List.take_of_length_le (by simp)]
  by_cases c : a.toNat ≤ l.length
  · rw [Nat.min_eq_left c]
  · rw [Nat.min_eq_right (by omega), List.drop_length, List.drop_eq_nil_of_le (by omega)]
theorem cut_take {α : Type} {l : List α} {b : Int} (h : 0 ≤ b) : cutL l none (some b) = l.take b.toNat := by
  unfold cutL
  rw [sIx_pos h, HT.sIx_none, Nat.sub_zero, List.drop_zero]
  by_cases c : b.toNat ≤ l.length
  · rw [Nat.min_eq_left c]
  · rw [Nat.min_eq_right (by omega), List.take_length, List.take_of_length_le (by omega)]
theorem cut_mid {α : Type} {l : List α} {a b : Int} (h : 0 ≤ a) (h' : 0 ≤ b) : cutL l (some a) (some b) = (l.take b.toNat).drop a.toNat := by
  unfold cutL
  rw [sIx_pos h, sIx_pos h', List.drop_take]
  by_cases c : a.toNat ≤ l.length
  · rw [Nat.min_eq_left c]
    by_cases c2 : b.toNat ≤ l.length
    · rw [Nat.min_eq_left c2]
    · rw [Nat.min_eq_right (by omega), List.take_of_length_le (by simp), List.take_of_length_le (by simp; omega)]
  · have e : min a.toNat l.length = l.length := by omega
    rw [e, List.drop_length, List.drop_eq_nil_of_le (by omega)]
    simp
theorem insI_perm_m (x : Int) : ∀ l : List Int, (insI x l).Perm (x :: l)
  | [] => .refl _
  | y :: r => by
    unfold insI
    split
    · exact .refl _
    · exact ((insI_perm_m x r).cons y).trans (.swap x y r)
theorem isort_perm_m : ∀ l : List Int, (isort l).Perm l
  | [] => .refl _
  | x :: r => (insI_perm_m x (isort r)).trans ((isort_perm_m r).cons x)
theorem insI_sorted_m (x : Int) : ∀ l : List Int, l.Pairwise (· ≤ ·) → (insI x l).Pairwise (· ≤ ·)
  | [], _ => by simp [insI]
  | y :: r, h => by
    unfold insI
    split
    · rename_i c
      refine .cons (fun z hz => ?_) h
      rcases List.mem_cons.mp hz with rfl | hz
      · exact c
      · exact Int.le_trans c (List.rel_of_pairwise_cons h hz)
    · rename_i c
      refine .cons (fun z hz => ?_) (insI_sorted_m x r (List.Pairwise.of_cons h))
      rcases List.mem_cons.mp ((insI_perm_m x r).mem_iff.mp hz) with rfl | hz
      · omega
      · exact List.rel_of_pairwise_cons h hz
theorem isort_sorted_m : ∀ l : List Int, (isort l).Pairwise (· ≤ ·)
  | [] => .nil
  | x :: r => insI_sorted_m x _ (isort_sorted_m r)
theorem sorted_uniq_m {l m : List Int} (h : l.Perm m) (hl : l.Pairwise (· ≤ ·)) (hm : m.Pairwise (· ≤ ·)) : l = m := h.eq_of_pairwise (fun a b _ _ h1 h2 => by omega) hl hm
theorem isort_eq {l m : List Int} (h : l.Perm m) : isort l = isort m := sorted_uniq_m ((isort_perm_m l).trans (h.trans (isort_perm_m m).symm)) (isort_sorted_m l) (isort_sorted_m m)
theorem isort_id {l : List Int} (h : l.Pairwise (· ≤ ·)) : isort l = l := sorted_uniq_m (isort_perm_m l) (isort_sorted_m l) h
theorem isort_iff {l m : List Int} : isort l = isort m ↔ l.Perm m := ⟨fun h => (isort_perm_m l).symm.trans (h ▸ isort_perm_m m), isort_eq⟩
theorem iota_le (n : Nat) (a : Int) : (iota a n).Pairwise (· ≤ ·) := (iota_sorted n a).imp fun h => by omega
theorem isort_iota {l : List Int} {n : Nat} : isort l = iota 0 n ↔ l.Perm (iota 0 n) := by
  rw [← isort_iff, isort_id (iota_le n 0)]
theorem minL_spec_m : ∀ (l : List Int) (x : Int), minL x l ∈ x :: l ∧ ∀ y ∈ x :: l, minL x l ≤ y
  | [], x => by simp [minL]
  | y :: r, x => by
    unfold minL
    by_cases c : y < x
    · rw [if_pos c]
      obtain ⟨h1, h2⟩ := minL_spec_m r y
      refine ⟨List.mem_cons_of_mem _ h1, fun z hz => ?_⟩
      rcases List.mem_cons.mp hz with rfl | hz
      · have := h2 y List.mem_cons_self
        omega
      · exact h2 z hz
    · rw [if_neg c]
      obtain ⟨h1, h2⟩ := minL_spec_m r x
      refine ⟨?_, fun z hz => ?_⟩
      · rcases List.mem_cons.mp h1 with h | h
        · rw [h]; exact List.mem_cons_self
        · exact List.mem_cons_of_mem _ (List.mem_cons_of_mem _ h)
      · rcases List.mem_cons.mp hz with rfl | hz
        · exact h2 z List.mem_cons_self
        · rcases List.mem_cons.mp hz with rfl | hz
          · have := h2 x List.mem_cons_self
            omega
          · exact h2 z (List.mem_cons_of_mem _ hz)
def least : List Int → Int
  | [] => 0
  | x :: r => minL x r
theorem least_mem {l : List Int} (h : l ≠ []) : least l ∈ l := by
  cases l with
  | nil => exact absurd rfl h
  | cons x r => exact (minL_spec_m r x).1
mutual
def Tr.leaves : Tr → List Int
  | .leaf i => [i]
  | .node _ ps => leavesL ps
def leavesL : List Tr → List Int
  | [] => []
  | t :: r => t.leaves ++ leavesL r
end
mutual
def Tr.dep : Tr → Nat
  | .leaf _ => 0
  | .node _ ps => depL ps + 1
def depL : List Tr → Nat
  | [] => 0
  | t :: r => max t.dep (depL r)
end
mutual
def Tr.Form : Tr → Prop
  | .leaf _ => True
  | .node w ps => 2 ≤ ps.length ∧ (w = false → 3 ≤ ps.length) ∧ FormL ps
def FormL : List Tr → Prop
  | [] => True
  | t :: r => t.Form ∧ FormL r
end
theorem Tr.ind {P : Tr → Prop} (hl : ∀ i, P (.leaf i)) (hn : ∀ w ps, (∀ p ∈ ps, P p) → P (.node w ps)) (t : Tr) : P t :=
  Tr.rec (motive_1 := P) (motive_2 := fun ps => ∀ p ∈ ps, P p) hl hn (fun p h => by cases h) (fun t r h1 h2 p h => by
    rcases List.mem_cons.mp h with rfl | h
    · exact h1
    · exact h2 p h) t
theorem leavesL_eq : ∀ ps : List Tr, leavesL ps = (ps.map Tr.leaves).flatten
  | [] => by simp [leavesL]
  | t :: r => by simp [leavesL, leavesL_eq r]
theorem FormL_iff : ∀ {ps : List Tr}, FormL ps ↔ ∀ p ∈ ps, p.Form
  | [] => by simp [FormL]
  | t :: r => by simp [FormL, FormL_iff (ps := r)]
theorem depL_le : ∀ {ps : List Tr} {p : Tr}, p ∈ ps → p.dep ≤ depL ps
  | t :: r, p, h => by
    simp only [depL]
    rcases List.mem_cons.mp h with rfl | h
    · omega
    · have := depL_le h; omega
theorem depL_lub {n : Nat} : ∀ {ps : List Tr}, (∀ p ∈ ps, p.dep ≤ n) → depL ps ≤ n
  | [], _ => by simp [depL]
  | t :: r, h => by
    simp only [depL]
    have := h t List.mem_cons_self
    have := depL_lub (ps := r) fun p m => h p (List.mem_cons_of_mem _ m)
    omega
theorem dep_part {w : Bool} {ps : List Tr} {p : Tr} (h : p ∈ ps) : p.dep < (Tr.node w ps).dep := by
  have := depL_le h
  simp only [Tr.dep]; omega
@[simp] theorem leaves_leaf {i : Int} : (Tr.leaf i).leaves = [i] := by simp [Tr.leaves]
@[simp] theorem leaves_node {w : Bool} {ps : List Tr} : (Tr.node w ps).leaves = leavesL ps := by simp [Tr.leaves]
@[simp] theorem leavesL_nil : leavesL [] = [] := by simp [leavesL]
@[simp] theorem leavesL_cons {t : Tr} {r : List Tr} : leavesL (t :: r) = t.leaves ++ leavesL r := by simp [leavesL]
theorem leavesL_append : ∀ {a b : List Tr}, leavesL (a ++ b) = leavesL a ++ leavesL b
  | [], b => by simp
  | t :: a, b => by simp [leavesL_append (a := a)]
theorem Form_node {w : Bool} {ps : List Tr} : (Tr.node w ps).Form ↔ 2 ≤ ps.length ∧ (w = false → 3 ≤ ps.length) ∧ ∀ p ∈ ps, p.Form := by
  simp only [Tr.Form, FormL_iff]
theorem leaves_pos (t : Tr) (h : t.Form) : 0 < t.leaves.length := by
  induction t using Tr.ind with
  | hl i => simp
  | hn w ps ih =>
    obtain ⟨h1, _, h3⟩ := Form_node.mp h
    match ps, h1 with
    | p :: r, _ =>
      have := ih p List.mem_cons_self (h3 p List.mem_cons_self)
      simp; omega
theorem leavesL_len : ∀ {ps : List Tr} {p : Tr}, p ∈ ps → (∀ p ∈ ps, 0 < p.leaves.length) → p.leaves.length + ps.length ≤ (leavesL ps).length + 1
  | t :: r, p, h, hp => by
    simp only [leavesL_cons, List.length_append, List.length_cons]
    have ht := hp t List.mem_cons_self
    rcases List.mem_cons.mp h with rfl | h
    · have : ∀ r : List Tr, (∀ p ∈ r, 0 < p.leaves.length) → r.length ≤ (leavesL r).length := by
        intro r
        induction r with
        | nil => simp
        | cons x r ih =>
          intro q
          have := ih fun p m => q p (List.mem_cons_of_mem _ m)
          have := q x List.mem_cons_self
          simp; omega
      have := this r fun p m => hp p (List.mem_cons_of_mem _ m)
      omega
    · have := leavesL_len h fun p m => hp p (List.mem_cons_of_mem _ m)
      omega
theorem dep_lt (t : Tr) (h : t.Form) : t.dep < t.leaves.length := by
  induction t using Tr.ind with
  | hl i => simp [Tr.dep]
  | hn w ps ih =>
    obtain ⟨h1, _, h3⟩ := Form_node.mp h
    have key : depL ps ≤ (leavesL ps).length - 2 := depL_lub fun p m => by
      have a := ih p m (h3 p m)
      have b := leavesL_len m fun p m => leaves_pos p (h3 p m)
      omega
    match ps, h1 with
    | p :: q :: r, _ =>
      have a := leaves_pos p (h3 p (by simp))
      have b := leaves_pos q (h3 q (by simp))
      simp only [Tr.dep, leaves_node]
      have : 2 ≤ (leavesL (p :: q :: r)).length := by simp; omega
      omega
theorem perm_leavesL {a b : List Tr} (h : a.Perm b) : (leavesL a).Perm (leavesL b) := by
  rw [leavesL_eq, leavesL_eq]
  exact (h.map _).flatten
theorem lay_tr (t : Tr) : (eTr t).canLay0 = true := by
  induction t using Tr.ind with
  | hl i => rw [eTr]; rfl
  | hn w ps ih =>
    rw [eTr, eTrs_map]
    have : PyData.canLayAll0 (ps.map eTr) = true := by
      induction ps with
      | nil => simp [PyData.canLayAll0]
      | cons p r ih2 => simp [PyData.canLayAll0, ih p List.mem_cons_self, ih2 fun p m => ih p (List.mem_cons_of_mem _ m)]
    simp only [PyData.canLay0, PyData.canLayAll0, this, Bool.and_true]
    exact q_W.lay w
theorem ddep_tr (t : Tr) : (eTr t).depth ≤ 2 * t.dep := by
  induction t using Tr.ind with
  | hl i => rw [eTr]; simp [PyData.depth]
  | hn w ps ih =>
    rw [eTr, eTrs_map]
    have : PyData.depthAll (ps.map eTr) ≤ 2 * depL ps := by
      induction ps with
      | nil => simp [PyData.depthAll]
      | cons p r ih2 =>
        have a := ih p List.mem_cons_self
        have b := ih2 fun p m => ih p (List.mem_cons_of_mem _ m)
        simp only [List.map_cons, PyData.depthAll, depL]
        omega
    simp only [PyData.depth, PyData.depthAll, Tr.dep]
    omega
theorem eqv_tr (a : Tr) : ∀ b : Tr, PyData.eqv (eTr a) (eTr b) = true ↔ a = b := by
  induction a using Tr.ind with
  | hl i =>
    intro b
    cases b with
    | leaf j => rw [eTr, eTr]; simp [PyData.eqv]
    | node w ps => rw [eTr, eTr]; simp [PyData.eqv]
  | hn w ps ih =>
    intro b
    cases b with
    | leaf j => rw [eTr, eTr]; simp [PyData.eqv]
    | node v qs =>
      have key : ∀ qs : List Tr, PyData.eqvAll (ps.map eTr) (qs.map eTr) = true ↔ ps = qs := by
        induction ps with
        | nil => intro qs; cases qs <;> simp [PyData.eqvAll]
        | cons p r ih2 =>
          intro qs
          cases qs with
          | nil => simp [PyData.eqvAll]
          | cons q s =>
            simp only [List.map_cons, PyData.eqvAll, Bool.and_eq_true, ih p List.mem_cons_self q, ih2 (fun p m => ih p (List.mem_cons_of_mem _ m)) s, List.cons.injEq]
      rw [eTr, eTr, eTrs_map, eTrs_map]
      simp only [PyData.eqv, PyData.eqvAll, Bool.and_true, Bool.and_eq_true, key qs, Tr.node.injEq]
      have : PyData.eqv (PyData.str (wS w)) (PyData.str (wS v)) = decide (w = v) := q_W.eqv w v
      rw [show (wS w == wS v) = PyData.eqv (PyData.str (wS w)) (PyData.str (wS v)) by simp [PyData.eqv], this]
      simp
theorem shaped_tr {t : Tr} (h : t.dep ≤ 31) : SeqAt.shaped (eTr t) = true := by
  have := ddep_tr t
  simp only [SeqAt.shaped, lay_tr, Bool.true_and, decide_eq_true_eq]
  omega
end PC
set_option Elab.async false
set_option linter.all false
set_option maxRecDepth 100000
namespace PC
open PySem
/-- another sequence of the parts -/
def Arr (w : Bool) (ps qs : List Tr) : Prop := match w with
  | true => qs.Perm ps
  | false => qs = ps ∨ qs = ps.reverse
theorem Arr.perm {w : Bool} {ps qs : List Tr} (h : Arr w ps qs) : qs.Perm ps := by
  cases w with
  | true => exact h
  | false =>
    rcases h with rfl | rfl
    · exact .refl _
    · exact List.reverse_perm ps
theorem Arr.refl {w : Bool} {ps : List Tr} : Arr w ps ps := by
  cases w with
  | true => exact List.Perm.refl _
  | false => exact .inl rfl
theorem Arr.symm {w : Bool} {ps qs : List Tr} (h : Arr w ps qs) : Arr w qs ps := by
  cases w with
  | true => exact List.Perm.symm h
  | false =>
    rcases h with rfl | rfl
    · exact .inl rfl
    · exact .inr (by simp)
theorem Arr.trans {w : Bool} {ps qs rs : List Tr} (h : Arr w ps qs) (h' : Arr w qs rs) : Arr w ps rs := by
  cases w with
  | true => exact List.Perm.trans h' h
  | false =>
    rcases h with rfl | rfl
    · exact h'
    · rcases h' with rfl | rfl
      · exact .inr rfl
      · exact .inl (by simp)
mutual
/-- the same tree, its parts in another sequence -/
inductive Same : Tr → Tr → Prop
  | leaf (i : Int) : Same (.leaf i) (.leaf i)
  | node {w : Bool} {ps qs rs : List Tr} : Arr w ps qs → SameL qs rs → Same (.node w ps) (.node w rs)
inductive SameL : List Tr → List Tr → Prop
  | nil : SameL [] []
  | cons {a b : Tr} {r s : List Tr} : Same a b → SameL r s → SameL (a :: r) (b :: s)
end
theorem SameL.length : ∀ {a b : List Tr}, SameL a b → a.length = b.length
  | _, _, .nil => rfl
  | _, _, .cons _ h => by simp [SameL.length h]
theorem SameL.append : ∀ {a b c d : List Tr}, SameL a b → SameL c d → SameL (a ++ c) (b ++ d)
  | _, _, _, _, .nil, h => h
  | _, _, _, _, .cons h1 h2, h => .cons h1 (SameL.append h2 h)
theorem SameL.reverse : ∀ {a b : List Tr}, SameL a b → SameL a.reverse b.reverse
  | _, _, .nil => .nil
  | _, _, .cons h1 h2 => by
    simp only [List.reverse_cons]
    exact SameL.append (SameL.reverse h2) (.cons h1 .nil)
theorem SameL.of_forall : ∀ {ps : List Tr} {f : Tr → Tr}, (∀ p ∈ ps, Same p (f p)) → SameL ps (ps.map f)
  | [], _, _ => .nil
  | p :: r, f, h => .cons (h p List.mem_cons_self) (SameL.of_forall fun q m => h q (List.mem_cons_of_mem _ m))
theorem SameL.perm {a b : List Tr} (h : SameL a b) {c : List Tr} (p : a.Perm c) : ∃ d, b.Perm d ∧ SameL c d := by
  induction p generalizing b with
  | nil => cases h; exact ⟨[], .refl _, .nil⟩
  | cons x _ ih =>
    cases h with
    | cons h1 h2 =>
      obtain ⟨d, p, q⟩ := ih h2
      exact ⟨_ :: d, p.cons _, .cons h1 q⟩
  | swap x y l =>
    cases h with
    | cons h1 h2 =>
      cases h2 with
      | cons h2 h3 => exact ⟨_ :: _ :: _, .swap _ _ _, .cons h2 (.cons h1 h3)⟩
  | trans _ _ ih1 ih2 =>
    obtain ⟨d, p, q⟩ := ih1 h
    obtain ⟨e, p2, q2⟩ := ih2 q
    exact ⟨e, p.trans p2, q2⟩
theorem SameL.perm_r {a b : List Tr} (h : SameL a b) {c : List Tr} (p : b.Perm c) : ∃ d, a.Perm d ∧ SameL d c := by
  induction p generalizing a with
  | nil => cases h; exact ⟨[], .refl _, .nil⟩
  | cons x _ ih =>
    cases h with
    | cons h1 h2 =>
      obtain ⟨d, p, q⟩ := ih h2
      exact ⟨_ :: d, p.cons _, .cons h1 q⟩
  | swap x y l =>
    cases h with
    | cons h1 h2 =>
      cases h2 with
      | cons h2 h3 => exact ⟨_ :: _ :: _, .swap _ _ _, .cons h2 (.cons h1 h3)⟩
  | trans _ _ ih1 ih2 =>
    obtain ⟨d, p, q⟩ := ih1 h
    obtain ⟨e, p2, q2⟩ := ih2 q
    exact ⟨e, p.trans p2, q2⟩
theorem SameL.arr_r {w : Bool} {a b : List Tr} (h : SameL a b) {c : List Tr} (p : Arr w b c) : ∃ d, Arr w a d ∧ SameL d c := by
  cases w with
  | true =>
    obtain ⟨d, q, r⟩ := h.perm_r (List.Perm.symm p)
    exact ⟨d, q.symm, r⟩
  | false =>
    rcases p with rfl | rfl
    · exact ⟨a, .inl rfl, h⟩
    · exact ⟨a.reverse, .inr rfl, h.reverse⟩
theorem Same.refl (t : Tr) : Same t t := by
  induction t using Tr.ind with
  | hl i => exact .leaf i
  | hn w ps ih =>
    refine .node .refl ?_
    have := SameL.of_forall (f := fun p => p) ih
    rwa [List.map_id'] at this
theorem SameL.refl (l : List Tr) : SameL l l := by
  have := SameL.of_forall (ps := l) (f := fun p => p) fun p _ => Same.refl p
  rwa [List.map_id'] at this
mutual
theorem Same.symm : ∀ {a b : Tr}, Same a b → Same b a
  | _, _, .leaf i => .leaf i
  | _, _, .node h1 h2 => by
    obtain ⟨d, q, r⟩ := (SameL.symm h2).arr_r h1.symm
    exact .node q r
theorem SameL.symm : ∀ {a b : List Tr}, SameL a b → SameL b a
  | _, _, .nil => .nil
  | _, _, .cons h1 h2 => .cons (Same.symm h1) (SameL.symm h2)
end
theorem SameL.trans_of {a b c : List Tr} (h : SameL a b) (h' : SameL b c) (ih : ∀ x ∈ a, ∀ b c, Same x b → Same b c → Same x c) : SameL a c := by
  induction a generalizing b c with
  | nil => cases h; exact h'
  | cons x r ih2 =>
    cases h with
    | cons h1 h2 =>
      cases h' with
      | cons h3 h4 => exact .cons (ih x List.mem_cons_self _ _ h1 h3) (ih2 h2 h4 fun y m => ih y (List.mem_cons_of_mem _ m))
theorem Same.trans {a b c : Tr} (h : Same a b) (h' : Same b c) : Same a c := by
  induction a using Tr.ind generalizing b c with
  | hl i => cases h; exact h'
  | hn w ps ih =>
    cases h with
    | node h1 h2 =>
      cases h' with
      | node h3 h4 =>
        obtain ⟨d, q, r⟩ := h2.arr_r h3
        exact .node (h1.trans q) (r.trans_of h4 fun x m b c e1 e2 => ih x (h1.perm.mem_iff.mp (q.perm.mem_iff.mp m)) e1 e2)
theorem SameL.trans {a b c : List Tr} (h : SameL a b) (h' : SameL b c) : SameL a c := by
  induction a generalizing b c with
  | nil => cases h; exact h'
  | cons x r ih =>
    cases h with
    | cons h1 h2 =>
      cases h' with
      | cons h3 h4 => exact .cons (h1.trans h3) (ih h2 h4)
mutual
theorem Same.leaves : ∀ {a b : Tr}, Same a b → b.leaves.Perm a.leaves
  | _, _, .leaf i => .refl _
  | _, _, .node h1 h2 => by
    rw [leaves_node, leaves_node]
    exact (SameL.leaves h2).trans (perm_leavesL h1.perm)
theorem SameL.leaves : ∀ {a b : List Tr}, SameL a b → (leavesL b).Perm (leavesL a)
  | _, _, .nil => .refl _
  | _, _, .cons h1 h2 => by
    rw [leavesL_cons, leavesL_cons]
    exact (Same.leaves h1).append (SameL.leaves h2)
end
mutual
theorem Same.form : ∀ {a b : Tr}, Same a b → a.Form → b.Form
  | _, _, .leaf i, h => h
  | _, _, .node h1 h2, h => by
    obtain ⟨f1, f2, f3⟩ := Form_node.mp h
    have e := h1.perm.length_eq
    have e2 := h2.length
    exact Form_node.mpr ⟨by omega, fun q => by have := f2 q; omega, SameL.form h2 fun p m => f3 p (h1.perm.mem_iff.mp m)⟩
theorem SameL.form : ∀ {a b : List Tr}, SameL a b → (∀ p ∈ a, p.Form) → ∀ p ∈ b, p.Form
  | _, _, .nil, h => h
  | _, _, .cons h1 h2, h => by
    have k1 := Same.form h1 (h _ List.mem_cons_self)
    have k2 := SameL.form h2 (fun q m => h q (List.mem_cons_of_mem _ m))
    intro p m
    rcases List.mem_cons.mp m with e | m
    · rw [e]; exact k1
    · exact k2 p m
end
def tl (t : Tr) : Int := least t.leaves
def leT (a b : Tr) : Bool := decide (tl a ≤ tl b)
def sortT (ps : List Tr) : List Tr := ps.mergeSort leT
def flipT (ps : List Tr) : List Tr := match ps.head?, ps.getLast? with
  | some a, some b => if tl b < tl a then ps.reverse else ps
  | _, _ => ps
mutual
def Tr.norm : Tr → Tr
  | .leaf i => .leaf i
  | .node true ps => .node true (sortT (normL ps))
  | .node false ps => .node false (flipT (normL ps))
def normL : List Tr → List Tr
  | [] => []
  | t :: r => t.norm :: normL r
end
theorem normL_map : ∀ ps : List Tr, normL ps = ps.map Tr.norm
  | [] => by simp [normL]
  | t :: r => by simp [normL, normL_map r]
theorem sortT_perm (ps : List Tr) : (sortT ps).Perm ps := List.mergeSort_perm ps leT
theorem leT_trans (a b c : Tr) (h : leT a b = true) (h' : leT b c = true) : leT a c = true := by
  simp only [leT, decide_eq_true_eq] at *; omega
theorem leT_total (a b : Tr) : (leT a b || leT b a) = true := by
  simp only [leT, Bool.or_eq_true, decide_eq_true_eq]; omega
theorem sortT_sorted (ps : List Tr) : (sortT ps).Pairwise fun a b => tl a ≤ tl b := by
  have := List.pairwise_mergeSort leT_trans leT_total ps
  exact this.imp fun h => by simpa [leT] using h
theorem flipT_arr (ps : List Tr) : Arr false ps (flipT ps) := by
  unfold flipT
  split
  · split
    · exact .inr rfl
    · exact .inl rfl
  · exact .inl rfl
theorem norm_arr (w : Bool) (ps : List Tr) : ∃ qs, Arr w (normL ps) qs ∧ (Tr.node w ps).norm = .node w qs := by
  cases w with
  | true => exact ⟨_, sortT_perm _, by simp [Tr.norm]⟩
  | false => exact ⟨_, flipT_arr _, by simp [Tr.norm]⟩
theorem norm_same (t : Tr) : Same t t.norm := by
  induction t using Tr.ind with
  | hl i => simp only [Tr.norm]; exact .leaf i
  | hn w ps ih =>
    obtain ⟨qs, h1, h2⟩ := norm_arr w ps
    rw [h2]
    have h3 : SameL ps (normL ps) := by rw [normL_map]; exact SameL.of_forall ih
    obtain ⟨d, q, r⟩ := h3.arr_r h1
    exact .node q r
/-- two sorted lists of the same trees with different least things -/
theorem sort_uniq {a b : List Tr} (p : a.Perm b) (ha : a.Pairwise fun x y => tl x ≤ tl y) (hb : b.Pairwise fun x y => tl x ≤ tl y) (h : ∀ x ∈ a, ∀ y ∈ a, tl x = tl y → x = y) : a = b :=
  p.eq_of_pairwise (fun x y hx hy h1 h2 => h x hx y (p.mem_iff.mpr hy) (by omega)) ha hb
theorem tl_mem {t : Tr} (h : t.Form) : tl t ∈ t.leaves := least_mem (List.length_pos_iff.mp (leaves_pos t h))
theorem tl_inj {ps : List Tr} (hf : ∀ p ∈ ps, p.Form) (hn : (leavesL ps).Nodup) : ∀ x ∈ ps, ∀ y ∈ ps, tl x = tl y → x = y := by
  induction ps with
  | nil => intro x h; cases h
  | cons p r ih =>
    rw [leavesL_cons] at hn
    obtain ⟨h1, h2, h3⟩ := List.nodup_append.mp hn
    have key : ∀ y ∈ r, tl y ∈ leavesL r := fun y m => by
      rw [leavesL_eq]
      exact List.mem_flatten.mpr ⟨_, List.mem_map.mpr ⟨y, m, rfl⟩, tl_mem (hf y (List.mem_cons_of_mem _ m))⟩
    intro x hx y hy e
    rcases List.mem_cons.mp hx with rfl | hx
    · rcases List.mem_cons.mp hy with rfl | hy
      · rfl
      · exact absurd e (h3 _ (tl_mem (hf x List.mem_cons_self)) _ (key y hy))
    · rcases List.mem_cons.mp hy with e2 | hy
      · rw [e2] at e
        exact absurd e.symm (h3 _ (tl_mem (hf p List.mem_cons_self)) _ (key x hx))
      · exact ih (fun q m => hf q (List.mem_cons_of_mem _ m)) h2 x hx y hy e
theorem flip_rev {ps : List Tr} (h2 : 2 ≤ ps.length) (hd : ∀ x ∈ ps, ∀ y ∈ ps, tl x = tl y → x = y) (hne : ps.head? ≠ ps.getLast?) : flipT ps.reverse = flipT ps := by
  unfold flipT
  rw [List.head?_reverse, List.getLast?_reverse]
  cases ha : ps.head? with
  | none => rw [List.head?_eq_none_iff] at ha; rw [ha] at h2; simp at h2
  | some a =>
    cases hb : ps.getLast? with
    | none => rw [List.getLast?_eq_none_iff] at hb; rw [hb] at h2; simp at h2
    | some b =>
      have hab : tl a ≠ tl b := fun e => hne (by rw [ha, hb, hd a (List.mem_of_head? ha) b (List.mem_of_getLast? hb) e])
      simp only [List.reverse_reverse]
      by_cases c : tl a < tl b
      · rw [if_pos c, if_neg (by omega)]
      · rw [if_neg c, if_pos (by omega)]
theorem head_ne_last {ps : List Tr} (h2 : 2 ≤ ps.length) (hf : ∀ p ∈ ps, p.Form) (hn : (leavesL ps).Nodup) : ps.head? ≠ ps.getLast? := by
  match ps, h2 with
  | p :: q :: r, _ =>
    intro e
    rw [List.head?_cons, List.getLast?_cons_cons] at e
    have m : p ∈ q :: r := List.mem_of_getLast? e.symm
    rw [leavesL_cons] at hn
    obtain ⟨_, _, h3⟩ := List.nodup_append.mp hn
    have k : tl p ∈ leavesL (q :: r) := by
      rw [leavesL_eq]
      exact List.mem_flatten.mpr ⟨_, List.mem_map.mpr ⟨p, m, rfl⟩, tl_mem (hf p List.mem_cons_self)⟩
    exact h3 _ (tl_mem (hf p List.mem_cons_self)) _ k rfl
mutual
theorem norm_eq : ∀ {a b : Tr}, Same a b → a.Form → a.leaves.Nodup → a.norm = b.norm
  | _, _, .leaf i, _, _ => rfl
  | _, _, .node (w := w) (ps := ps) (qs := qs) (rs := rs) h1 h2, hf, hn => by
    obtain ⟨f1, f2, f3⟩ := Form_node.mp hf
    rw [leaves_node] at hn
    have g3 : ∀ p ∈ qs, p.Form := fun p m => f3 p (h1.perm.mem_iff.mp m)
    have hnq : (leavesL qs).Nodup := (perm_leavesL h1.perm).nodup_iff.mpr hn
    have e : normL qs = normL rs := normL_eq h2 g3 hnq
    have fn : ∀ p ∈ normL ps, p.Form := fun p m => by
      rw [normL_map] at m
      obtain ⟨q, m', rfl⟩ := List.mem_map.mp m
      exact (norm_same q).form (f3 q m')
    have h3 : SameL ps (normL ps) := by rw [normL_map]; exact SameL.of_forall fun p _ => norm_same p
    have nn : (leavesL (normL ps)).Nodup := h3.leaves.nodup_iff.mpr hn
    have ti := tl_inj fn nn
    cases w with
    | true =>
      have p1 : (normL qs).Perm (normL ps) := by rw [normL_map, normL_map]; exact List.Perm.map _ h1
      simp only [Tr.norm]
      congr 1
      have p2 : (sortT (normL ps)).Perm (sortT (normL rs)) := (sortT_perm _).trans (p1.symm.trans (e ▸ (sortT_perm _).symm))
      exact sort_uniq p2 (sortT_sorted _) (sortT_sorted _) fun x hx y hy => ti x ((sortT_perm _).mem_iff.mp hx) y ((sortT_perm _).mem_iff.mp hy)
    | false =>
      simp only [Tr.norm]
      congr 1
      rcases h1 with rfl | rfl
      · rw [e]
      · have e3 : normL ps.reverse = (normL ps).reverse := by rw [normL_map, normL_map, List.map_reverse]
        rw [← e, e3]
        have l2 : 2 ≤ (normL ps).length := by rw [normL_map, List.length_map]; exact f1
        exact (flip_rev l2 ti (head_ne_last l2 fn nn)).symm
theorem normL_eq : ∀ {a b : List Tr}, SameL a b → (∀ p ∈ a, p.Form) → (leavesL a).Nodup → normL a = normL b
  | _, _, .nil, _, _ => rfl
  | _, _, .cons h1 h2, hf, hn => by
    rw [leavesL_cons] at hn
    obtain ⟨n1, n2, _⟩ := List.nodup_append.mp hn
    simp only [normL]
    rw [norm_eq h1 (hf _ List.mem_cons_self) n1, normL_eq h2 (fun p m => hf p (List.mem_cons_of_mem _ m)) n2]
end
theorem norm_iff {a b : Tr} (hf : a.Form) (hn : a.leaves.Nodup) : a.norm = b.norm ↔ Same a b :=
  ⟨fun h => (norm_same a).trans (h ▸ (norm_same b).symm), fun h => norm_eq h hf hn⟩
mutual
/-- in the normal form -/
def Tr.Norm : Tr → Prop
  | .leaf _ => True
  | .node true ps => NormL ps ∧ ps.Pairwise fun a b => tl a ≤ tl b
  | .node false ps => NormL ps ∧ ∀ a b, ps.head? = some a → ps.getLast? = some b → tl a ≤ tl b
def NormL : List Tr → Prop
  | [] => True
  | t :: r => t.Norm ∧ NormL r
end
theorem NormL_iff : ∀ {ps : List Tr}, NormL ps ↔ ∀ p ∈ ps, p.Norm
  | [] => by simp [NormL]
  | t :: r => by simp [NormL, NormL_iff (ps := r)]
end PC
set_option Elab.async false
set_option linter.all false
set_option maxRecDepth 100000
namespace PC
open PySem
theorem succ_of {k n : Nat} (h : n + 1 ≤ k) : ∃ j, k = j + 1 ∧ n ≤ j := ⟨k - 1, by omega, by omega⟩
theorem appL_ok {α σ ρ : Type} {l : List α} {a : α} {k : List α → Fl σ ρ} (h : l.length ≤ 1000000) : appL l a k = k (l ++ [a]) := by
  unfold appL; exact if_pos (by show l.length < 10000000; omega)
theorem extL_ok {α σ ρ : Type} {l m : List α} {k : List α → Fl σ ρ} (h : l.length + m.length ≤ 1000000) : extL l m k = k (l ++ m) := by
  unfold extL; exact if_pos (by show _ < 10000000; omega)
theorem insL_ok {α σ ρ : Type} {l : List α} {z : Int} {a : α} {k : List α → Fl σ ρ} (h0 : 0 ≤ z) (h1 : z ≤ l.length) (h : l.length ≤ 1000000) : insL l z a k = k (l.take z.toNat ++ a :: l.drop z.toNat) := by
  unfold insL; exact if_pos ⟨h0, h1, by show _ < 10000000; omega⟩
theorem catL_ok {α : Type} {a b : List α} (h : a.length + b.length ≤ 1000000) : catL a b = .ok (a ++ b) := by
  unfold catL; exact if_pos (Nat.le_trans h (by decide))
theorem nodup_part {ps : List Tr} {p : Tr} (h : p ∈ ps) (hn : (leavesL ps).Nodup) : p.leaves.Nodup := by
  induction ps with
  | nil => cases h
  | cons q r ih =>
    rw [leavesL_cons] at hn
    obtain ⟨h1, h2, _⟩ := List.nodup_append.mp hn
    rcases List.mem_cons.mp h with rfl | h
    · exact h1
    · exact ih h h2
theorem len_part {ps : List Tr} {p : Tr} (h : p ∈ ps) : p.leaves.length ≤ (leavesL ps).length := by
  induction ps with
  | nil => cases h
  | cons q r ih =>
    simp only [leavesL_cons, List.length_append]
    rcases List.mem_cons.mp h with rfl | h
    · omega
    · have := ih h; omega
theorem depL_perm {a b : List Tr} (h : a.Perm b) : depL a = depL b := by
  induction h with
  | nil => rfl
  | cons x _ ih => simp only [depL, ih]
  | swap x y l => simp only [depL]; omega
  | trans _ _ h1 h2 => rw [h1, h2]
mutual
theorem Same.dep : ∀ {a b : Tr}, Same a b → b.dep = a.dep
  | _, _, .leaf i => rfl
  | _, _, .node h1 h2 => by
    have := SameL.dep h2
    simp only [Tr.dep]
    rw [this, depL_perm h1.perm]
theorem SameL.dep : ∀ {a b : List Tr}, SameL a b → depL b = depL a
  | _, _, .nil => rfl
  | _, _, .cons h1 h2 => by simp only [depL, Same.dep h1, SameL.dep h2]
end
theorem nodupI_id : ∀ {l : List Int}, l.Nodup → nodupI l = l
  | [], _ => rfl
  | x :: r, h => by
    unfold nodupI
    obtain ⟨h1, h2⟩ := List.nodup_cons.mp h
    rw [if_neg h1, nodupI_id h2]
/-- a tree over so many things -/
structure Over (n : Nat) (t : Tr) : Prop where
  form : t.Form
  perm : t.leaves.Perm (iota 0 n)
theorem Over.nodup {n : Nat} {t : Tr} (h : Over n t) : t.leaves.Nodup := h.perm.nodup_iff.mpr (iota_nodup n 0)
theorem Over.len {n : Nat} {t : Tr} (h : Over n t) : t.leaves.length = n := by rw [h.perm.length_eq, iota_len]
theorem Over.dep {n : Nat} {t : Tr} (h : Over n t) : t.dep < n := by have := dep_lt t h.form; rw [h.len] at this; exact this
theorem Over.pos {n : Nat} {t : Tr} (h : Over n t) : 0 < n := by have := leaves_pos t h.form; rw [h.len] at this; exact this
theorem Over.same {n : Nat} {t t' : Tr} (h : Over n t) (s : Same t t') : Over n t' := ⟨s.form h.form, s.leaves.trans h.perm⟩
theorem Over.norm {n : Nat} {t : Tr} (h : Over n t) : Over n t.norm := h.same (norm_same t)
theorem Over.norm_iff {n : Nat} {a b : Tr} (h : Over n a) : a.norm = b.norm ↔ Same a b := PC.norm_iff h.form h.nodup
end PC
set_option Elab.async false
set_option linter.all false
set_option maxRecDepth 100000
namespace PC
open PySem
theorem tmod_ok {i j : Int} (h : 0 < j) : tmod i j = .ok (i % j) := by unfold tmod; rw [if_pos h]
theorem tdiv_ok {i j : Int} (h : 0 < j) (h' : j < 2 ^ 64) : tdiv i j = .ok (i / j) := by
  unfold tdiv; rw [if_pos ⟨h, log2_small (by omega)⟩]
theorem tmul_ok {i j : Int} (h : -(2 ^ 64) < j) (h' : j < 2 ^ 64) : tmul i j = .ok (i * j) := by
  unfold tmul; rw [if_pos (mulOk_r h h')]
theorem cell_ok {k : Nat} {ns : List Int} {i : Int} (h : 0 ≤ i) (hk : 1 ≤ k) : f_law_cell k ns i = .ok (ns.getD i.toNat 0) := by
  obtain ⟨k, rfl, _⟩ := succ_of hk
  by_cases h1 : i < ns.length
  · have h2 : i.toNat < ns.length := by omega
    have e := atL_int h h2
    simp [f_law_cell, h1, e, h2]
  · have h2 : ns.length ≤ i.toNat := by omega
    simp [f_law_cell, h1, List.getElem?_eq_none h2]
def rich (c : Int) : Int := if 1000000000000000000 ≤ c then c else (c * 48271 + 11) % 2147483647 * 2147483629 + ((c * 48271 + 11) % 2147483647 * 69621 + c / 7 + 5) % 2147483629
theorem tpow_10 : tpow 10 18 = .ok 1000000000000000000 := by rfl
theorem rich_ok {k : Nat} {c : Int} (hk : 1 ≤ k) : f_law_rich k c = .ok (rich c) := by
  obtain ⟨k, rfl, _⟩ := succ_of hk
  unfold rich
  by_cases h1 : 1000000000000000000 ≤ c
  · simp [f_law_rich, tpow_10, h1]
  · simp [f_law_rich, tpow_10, h1, tmod_ok, tdiv_ok, tmul_ok]
def digits (c : Int) : List Int → List Int
  | [] => []
  | s :: r => c % s :: digits (c / s) r
theorem digits_loop {ρ : Type} : ∀ {l : List Int} {c : Int} {acc : List Int}, (∀ s ∈ l, 0 < s ∧ s < 1000000) → acc.length + l.length ≤ 100000 →
    ∃ c', (forL l (c, acc) fun size (s1 : Int × List Int) => letR (tmod s1.1 size) fun t => appL s1.2 t fun row1 => letR (tdiv s1.1 size) fun c1 => (Fl.nx (c1, row1) : Fl (Int × List Int) ρ)) = .nx (c', acc ++ digits c l)
  | [], c, acc, _, _ => ⟨c, by simp [digits]⟩
  | s :: l, c, acc, h, hl => by
    obtain ⟨h1, h2⟩ := h s List.mem_cons_self
    simp only [List.length_cons] at hl
    obtain ⟨c', e⟩ := digits_loop (ρ := ρ) (l := l) (c := c / s) (acc := acc ++ [c % s]) (fun x m => h x (List.mem_cons_of_mem _ m)) (by simp; omega)
    refine ⟨c', ?_⟩
    rw [forL_cons]
    simp only [tmod_ok h1, tdiv_ok h1 (show s < 2 ^ 64 by omega), letR_ok]
    rw [appL_ok (by omega)]
    simp only [letR_ok, e]
    simp [digits]
theorem digits_ok {k : Nat} {c : Int} {l : List Int} (h : ∀ s ∈ l, 0 < s ∧ s < 1000000) (hl : l.length ≤ 1000) (hk : 1 ≤ k) : f_law_digits k c l = .ok (digits c l) := by
  obtain ⟨k, rfl, _⟩ := succ_of hk
  obtain ⟨c', e⟩ := digits_loop (ρ := List Int) (l := l) (c := c) (acc := []) h (by simp; omega)
  simp [f_law_digits, e]
/-- the i-th digit lies in its range -/
theorem digits_get : ∀ {l : List Int} {c : Int} {i : Nat} {s : Int}, l[i]? = some s → 0 < s → ∃ d, (digits c l)[i]? = some d ∧ 0 ≤ d ∧ d < s
  | x :: l, c, 0, s, h, hs => by
    simp at h; subst h
    exact ⟨c % x, by simp [digits], Int.emod_nonneg _ (by omega), Int.emod_lt_of_pos _ hs⟩
  | x :: l, c, i + 1, s, h, hs => by
    obtain ⟨d, h1, h2⟩ := digits_get (l := l) (c := c / x) (i := i) (by simpa using h) hs
    exact ⟨d, by simpa [digits] using h1, h2⟩
theorem digits_at {l : List Int} {c : Int} {i : Nat} {s : Int} (h : l[i]? = some s) (hs : 0 < s) : ∃ d, atL (digits c l) (i : Int) = .ok d ∧ 0 ≤ d ∧ d < s := by
  obtain ⟨d, h1, h2⟩ := digits_get (c := c) h hs
  exact ⟨d, atL_nat h1, h2⟩
theorem appPopL_ok {α σ ρ : Type} {l m : List α} {z : Int} {k : List α → List α → Fl σ ρ} (h0 : 0 ≤ z) (h1 : z.toNat < l.length) (hl : l.length ≤ 1000000) (hm : m.length ≤ 1000000) : appPopL l m z k = k (l.eraseIdx z.toNat) (m ++ [l[z.toNat]]) := by
  have e1 : seqIndex? z l.length = some z.toNat := by
    have hz0 : ¬ z < 0 := by omega
    simp only [seqIndex?, hz0, if_false]
    rw [if_pos]
    simp
    omega
  unfold appPopL
  rw [e1]
  simp only [List.getElem?_eq_getElem h1]
  rw [if_pos ⟨Nat.ble_eq_true_of_le (by omega), by show m.length < 10000000; omega⟩]
/-- an order of n things -/
def Ord (n : Nat) (o : List Int) : Prop := o.Perm (iota 0 n)
theorem order_ok {k n : Nat} {c : Int} (hn : n ≤ 1000) (hk : 2 ≤ k) : ∃ o, f_law_order k c (n : Int) = .ok o ∧ Ord n o := by
  obtain ⟨k, rfl, hk1⟩ := succ_of hk
  simp only [f_law_order, rng0 (show n ≤ 1000000 by omega), bnd_ok, letR_ok, rich_ok hk1]
  refine seq_inv (G := fun x => ∃ o, Fl.run x .st = .ok o ∧ Ord n o) (fun i s => s.1.length = n - i ∧ i ≤ n ∧ (s.2.2 ++ s.1).Perm (iota 0 n)) ⟨by rw [iota_len]; omega, by omega, by simp⟩ (fun i hi s ⟨h1, h2, h3⟩ => ?_) fun s ⟨h1, _, h3⟩ => ?_
  · obtain ⟨left, r, o⟩ := s
    simp only at h1 h3 ⊢
    rw [iota_getE hi]
    rw [iota_len] at hi
    have hlen := h3.length_eq
    rw [List.length_append, iota_len] at hlen
    have p1 : 0 < (n : Int) - (0 + (i : Int)) := by omega
    have hz0 : 0 ≤ r % ((n : Int) - (0 + i)) := Int.emod_nonneg _ (by omega)
    have hz1 : r % ((n : Int) - (0 + i)) < (n : Int) - (0 + i) := Int.emod_lt_of_pos _ p1
    have hzl : (r % ((n : Int) - (0 + i))).toNat < left.length := by omega
    simp only [tmod_ok p1, tdiv_ok p1 (show (n : Int) - (0 + i) < 2 ^ 64 by omega), letR_ok, appPopL_ok hz0 hzl (show left.length ≤ 1000000 by omega) (show o.length ≤ 1000000 by omega)]
    have p2 : (left[(r % ((n : Int) - (0 + i))).toNat] :: left.eraseIdx (r % ((n : Int) - (0 + i))).toNat).Perm left := eraseIdx_perm _ _ hzl
    have p3 : ((o ++ [left[(r % ((n : Int) - (0 + i))).toNat]]) ++ left.eraseIdx (r % ((n : Int) - (0 + i))).toNat).Perm (iota 0 n) := by
      rw [List.append_assoc]
      exact (p2.append_left o).trans h3
    have p4 : (left.eraseIdx (r % ((n : Int) - (0 + i))).toNat).length = n - (i + 1) := by
      rw [List.length_eraseIdx_of_lt hzl]; omega
    by_cases hz : r / ((n : Int) - (0 + i)) = 0
    · exact ⟨_, by simp only [hz, decide_true, cnd_ok, if_true, seq_nx]; rfl, p4, by omega, p3⟩
    · exact ⟨_, by simp only [hz, decide_false, cnd_ok, Bool.false_eq_true, if_false, seq_nx]; rfl, p4, by omega, p3⟩
  · obtain ⟨left, r, o⟩ := s
    simp only [iota_len, Nat.sub_self] at h1 h3
    have hl0 : left = [] := List.length_eq_zero_iff.mp h1
    subst hl0
    rw [List.append_nil] at h3
    exact ⟨o, rfl, h3⟩
theorem law_things_loop {k : Nat} {ρ : Type} : ∀ {ps : List Tr} {acc : List Int}, (∀ p ∈ ps, f_law_things k p = .ok p.leaves) → acc.length + (leavesL ps).length ≤ 1000000 → (forL ps acc fun part (s2 : List Int) => letR ((f_law_things k part).bind fun t2 => catL s2 t2) fun found1 => (Fl.nx found1 : Fl (List Int) ρ)) = .nx (acc ++ leavesL ps)
  | [], acc, _, _ => by simp
  | p :: r, acc, h, hl => by
    rw [forL_cons, h p List.mem_cons_self]
    simp only [leavesL_cons, List.length_append] at hl
    simp only [bnd_ok]
    rw [catL_ok (by omega)]
    simp only [letR_ok]
    rw [law_things_loop (fun q m => h q (List.mem_cons_of_mem _ m)) (by simp; omega)]
    simp
theorem law_things_ok : ∀ {k : Nat} {t : Tr}, t.dep + 1 ≤ k → t.leaves.length ≤ 1000000 → f_law_things k t = .ok t.leaves := by
  intro k
  induction k with
  | zero => intro t h; omega
  | succ k ih =>
    intro t h hl
    cases t with
    | leaf i => simp [f_law_things, Tr.isLeaf, Tr.thing]
    | node w ps =>
      have hp : ∀ p ∈ ps, f_law_things k p = .ok p.leaves := fun p m => by
        have := dep_part (w := w) m
        refine ih (by omega) ?_
        have := len_part m
        rw [leaves_node] at hl
        omega
      simp [f_law_things, Tr.isLeaf, Tr.parts, law_things_loop hp (acc := []) (by simpa using hl)]
/-- shuffled trees -/
theorem shuffled_ok : ∀ {k : Nat} {t : Tr} {c : Int}, t.dep + 2 ≤ k → t.Form → t.leaves.length ≤ 1000 → ∃ t', f_law_shuffled k t c = .ok t' ∧ Same t t' := by
  intro k
  induction k with
  | zero => intro t c h; omega
  | succ k ih =>
    intro t c h hf hl
    cases t with
    | leaf i => exact ⟨.leaf i, by simp [f_law_shuffled, Tr.isLeaf], .leaf i⟩
    | node w ps =>
      obtain ⟨f1, f2, f3⟩ := Form_node.mp hf
      rw [leaves_node] at hl
      have hpl : ps.length ≤ 1000 := by
        match ps, f1 with
        | p :: r, _ =>
          have := leavesL_len (ps := p :: r) List.mem_cons_self fun q m => leaves_pos q (f3 q m)
          have := leaves_pos p (f3 p List.mem_cons_self)
          omega
      have er := rich_ok (k := k) (c := c) (by omega)
      simp only [f_law_shuffled, Tr.isLeaf, cnd_ok, Bool.false_eq_true, if_false, letR_ok, er, Tr.parts, bnd_ok, Tr.word]
      refine seq_inv (G := fun x => ∃ t', Fl.run x .st = .ok t' ∧ Same (.node w ps) t') (fun i s => s.1.length = i ∧ ∃ qs, (if w then qs.Perm (ps.take i) else qs = ps.take i) ∧ SameL qs s.1) ⟨rfl, [], by cases w <;> simp, .nil⟩ (fun i hi s ⟨h1, qs, h2, h3⟩ => ?_) fun s ⟨h1, qs, h2, h3⟩ => ?_
      · obtain ⟨m, r⟩ := s
        simp only at h1 h3 ⊢
        obtain ⟨t', e1, e2⟩ := ih (t := ps[i]) (c := r / 3 + 5) (by have := dep_part (w := w) (List.getElem_mem hi); omega) (f3 _ (List.getElem_mem hi)) (by have := len_part (List.getElem_mem hi); omega)
        have hlen := h3.length
        have et : ps.take (i + 1) = ps.take i ++ [ps[i]] := by rw [List.take_succ, List.getElem?_eq_getElem hi]; rfl
        have d3 := tdiv_ok (i := r) (show (0 : Int) < 3 by decide) (by decide)
        have d7 := tdiv_ok (i := r) (show (0 : Int) < 7 by decide) (by decide)
        cases w with
        | true =>
          have p1 : 0 < (m.length : Int) + 1 := by omega
          have z0 : 0 ≤ r % ((m.length : Int) + 1) := Int.emod_nonneg _ (by omega)
          have z1 : r % ((m.length : Int) + 1) < (m.length : Int) + 1 := Int.emod_lt_of_pos _ p1
          refine ⟨(m.take (r % ((m.length : Int) + 1)).toNat ++ t' :: m.drop (r % ((m.length : Int) + 1)).toNat, r / 7 + 99), ?_, ?_, ?_⟩
          · simp only [d3, bnd_ok, e1, letR_ok, if_true, tmod_ok p1]
            rw [insL_ok z0 (by omega) (by omega)]
            simp only [seq_nx, d7, bnd_ok, letR_ok]
          · simp only [List.length_append, List.length_take, List.length_cons, List.length_drop]; omega
          · simp only [if_true] at h2 ⊢
            have hz : (m.take (r % ((m.length : Int) + 1)).toNat ++ t' :: m.drop (r % ((m.length : Int) + 1)).toNat).Perm (m ++ [t']) := by
              refine List.perm_middle.trans ?_
              rw [List.take_append_drop]
              exact (List.perm_append_singleton t' m).symm
            have h4 : SameL (qs ++ [ps[i]]) (m ++ [t']) := h3.append (.cons e2 .nil)
            obtain ⟨d, p, q⟩ := h4.perm_r hz.symm
            exact ⟨d, by rw [et]; exact p.symm.trans (h2.append_right _), q⟩
        | false =>
          refine ⟨(m ++ [t'], r / 7 + 99), ?_, by simp; omega, ?_⟩
          · simp only [d3, bnd_ok, e1, letR_ok, Bool.false_eq_true, if_false]
            rw [appL_ok (by omega)]
            simp only [seq_nx, d7, bnd_ok, letR_ok]
          · simp only [Bool.false_eq_true, if_false] at h2 ⊢
            exact ⟨qs ++ [ps[i]], by rw [et, h2], h3.append (.cons e2 .nil)⟩
      · obtain ⟨m, r⟩ := s
        rw [List.take_length] at h2
        simp only at h1 h3
        cases w with
        | true =>
          simp only [if_true] at h2
          exact ⟨.node true m, by simp, .node (w := true) h2 h3⟩
        | false =>
          simp only [Bool.false_eq_true, if_false] at h2
          subst h2
          have e2 := tmod_ok (i := c) (show (0 : Int) < 2 by decide)
          by_cases hc : c % 2 = 1
          · exact ⟨.node false m.reverse, by simp [e2, hc], .node (w := false) (.inr rfl) h3.reverse⟩
          · exact ⟨.node false m, by simp [e2, hc], .node (w := false) (.inl rfl) h3⟩
end PC
set_option Elab.async false
set_option linter.all false
set_option maxRecDepth 100000
namespace PC
open PySem
theorem leavesL_leaf : ∀ l : List Int, leavesL (l.map Tr.leaf) = l
  | [] => by simp
  | x :: r => by simp [leavesL_leaf r]
/-- the parts of a tree under way -/
structure Parts (n : Nat) (ps : List Tr) : Prop where
  form : ∀ p ∈ ps, p.Form
  perm : (leavesL ps).Perm (iota 0 n)
theorem Parts.len {n : Nat} {ps : List Tr} (h : Parts n ps) : ps.length ≤ n := by
  have e := h.perm.length_eq
  rw [iota_len] at e
  cases ps with
  | nil => simp
  | cons p r =>
    have a := leavesL_len (ps := p :: r) List.mem_cons_self fun q m => leaves_pos q (h.form q m)
    have b := leaves_pos p (h.form p List.mem_cons_self)
    omega
theorem Parts.pos {n : Nat} {ps : List Tr} (h : Parts n ps) (hn : 0 < n) : 0 < ps.length := by
  cases ps with
  | nil =>
    have e := h.perm.length_eq
    rw [iota_len] at e
    simp at e; omega
  | cons p r => simp
/-- a stretch of the parts is put together -/
theorem Parts.join {n : Nat} {ps : List Tr} {a b : Nat} {w : Bool} (h : Parts n ps) (hab : a ≤ b) (hc : 1 < ((ps.take b).drop a).length) (hw : w = false → 2 < ((ps.take b).drop a).length) : Parts n (ps.take a ++ [.node w ((ps.take b).drop a)] ++ ps.drop b) := by
  have e : ps.take a ++ ((ps.take b).drop a ++ ps.drop b) = ps := by
    rw [← List.append_assoc]
    have : ps.take a ++ (ps.take b).drop a = ps.take b := by
      have h1 := List.take_append_drop a (ps.take b)
      rw [List.take_take, Nat.min_eq_left hab] at h1
      exact h1
    rw [this, List.take_append_drop]
  refine ⟨fun p m => ?_, ?_⟩
  · simp only [List.mem_append, List.mem_singleton] at m
    rcases m with (m | m) | m
    · exact h.form p (List.mem_of_mem_take m)
    · subst m
      exact Form_node.mpr ⟨hc, fun q => hw q, fun q m => h.form q (List.mem_of_mem_take (List.mem_of_mem_drop m))⟩
    · exact h.form p (List.mem_of_mem_drop m)
  · have e2 : leavesL (ps.take a ++ [.node w ((ps.take b).drop a)] ++ ps.drop b) = leavesL ps := by
      conv => rhs; rw [← e]
      simp only [leavesL_append, leavesL_cons, leavesL_nil, leaves_node, List.append_nil, List.append_assoc]
    rw [e2]; exact h.perm
theorem tree_ok {k n : Nat} {c : Int} (h0 : 0 < n) (hn : n ≤ 24) (hk : 3 ≤ k) : ∃ t, f_law_tree k c (n : Int) = .ok t ∧ Over n t := by
  obtain ⟨k, rfl, hk1⟩ := succ_of hk
  obtain ⟨o, eo, ho⟩ := order_ok (k := k) (c := c) (n := n) (by omega) hk1
  have d3 := tdiv_ok (i := c) (show (0 : Int) < 3 by decide) (by decide)
  simp only [f_law_tree, eo, bnd_ok, letR_ok, d3, rich_ok (show 1 ≤ k by omega), rng_ok (show (-1000000 : Int) ≤ 0 by decide) (by decide) (show (-1000000 : Int) ≤ 30 by decide) (by decide)]
  refine seq_brk (G := fun x => ∃ t, Fl.run x .st = .ok t ∧ Over n t) (fun i s => Parts n s.1) (fun s => Parts n s.1) ⟨fun p m => ?_, by rw [leavesL_leaf]; exact ho⟩ (fun i hi s h => ?_) fun s h => ?_
  · obtain ⟨x, _, rfl⟩ := List.mem_map.mp m
    simp [Tr.Form]
  · obtain ⟨ps, r⟩ := s
    simp only at h ⊢
    have hlen := h.len
    have hi30 : i < 30 := by rw [iota_len] at hi; simpa using hi
    rw [iota_getE hi]
    by_cases hs : (ps.length : Int) < 2
    · right
      exact ⟨(ps, r), by simp only [hs, decide_true, cnd_ok, if_true], h⟩
    · left
      have m4 := tmod_ok (i := r) (show (0 : Int) < 4 by decide)
      have d1024 := tdiv_ok (i := r) (show (0 : Int) < 1024 by decide) (by decide)
      have m8 := tmod_ok (i := r / 1024) (show (0 : Int) < 8 by decide)
      have d4 := tdiv_ok (i := r) (show (0 : Int) < 4 by decide) (by decide)
      have pl : 0 < (ps.length : Int) := by omega
      have ml := tmod_ok (i := r / 4) pl
      have d64 := tdiv_ok (i := r) (show (0 : Int) < 64 by decide) (by decide)
      have m2 := tmod_ok (i := r / 64) (show (0 : Int) < 2 by decide)
      have d5 := tdiv_ok (i := r) (show (0 : Int) < 5 by decide) (by decide)
      have mi := tmul_ok (i := 1000003) (j := 0 + (i : Int)) (by omega) (by omega)
      have z0 : 0 ≤ r / 4 % (ps.length : Int) := Int.emod_nonneg _ (by omega)
      have z1 : r / 4 % (ps.length : Int) < ps.length := Int.emod_lt_of_pos _ pl
      have s0 : 0 ≤ r % 4 := Int.emod_nonneg _ (by omega)
      simp only [hs, decide_false, cnd_ok, Bool.false_eq_true, if_false, m4, d1024, m8, d4, ml, d64, m2, d5, mi, bnd_ok, letR_ok]
      generalize r / 4 % (ps.length : Int) = at_ at *
      have key : ∀ size : Int, 0 ≤ size → ∃ s' : List Tr × Int, (Fl.seq (cnd (.ok (decide (1 < ((cutL ps (some at_) (some (at_ + size))).length : Int))))
        (Fl.seq (cnd (if (decide (2 < ((cutL ps (some at_) (some (at_ + size))).length : Int))) then .ok (decide (r / 64 % 2 = 1)) else .ok false)
          (Fl.nx false)
          (Fl.nx true)) fun (s5 : Bool) =>
        letR (((catL (cutL ps none (some at_)) [(Tr.node s5 (cutL ps (some at_) (some (at_ + size))))])).bind fun t12 => (catL t12 (cutL ps (some (at_ + size)) none))) fun parts1 =>
        .nx (parts1))
        (.nx (ps))) fun (s4 : (List Tr)) => (.nx (s4, r / 5 + 1000003 * (0 + (i : Int)) + 17) : Fl (List Tr × Int) Tr)) = .nx s' ∧ Parts n s'.1 := by
        intro size hsz
        rw [cut_mid z0 (by omega), cut_take z0, cut_drop (show 0 ≤ at_ + size by omega)]
        have hab : at_.toNat ≤ (at_ + size).toNat := by omega
        by_cases c1 : 1 < ((ps.take (at_ + size).toNat).drop at_.toNat).length
        · have c1' : (1 : Int) < ((ps.take (at_ + size).toNat).drop at_.toNat).length := by omega
          have cat : ∀ w, (catL (ps.take at_.toNat) [Tr.node w ((ps.take (at_ + size).toNat).drop at_.toNat)]).bind (fun t12 => catL t12 (ps.drop (at_ + size).toNat)) = .ok (ps.take at_.toNat ++ [Tr.node w ((ps.take (at_ + size).toNat).drop at_.toNat)] ++ ps.drop (at_ + size).toNat) := by
            intro w
            rw [catL_ok (by simp; omega), bnd_ok, catL_ok (by simp; omega)]
          by_cases c2 : (2 : Int) < ((ps.take (at_ + size).toNat).drop at_.toNat).length ∧ r / 64 % 2 = 1
          · refine ⟨(_, r / 5 + 1000003 * (0 + (i : Int)) + 17), ?_, h.join (w := false) hab c1 fun _ => by omega⟩
            simp only [c1', c2.1, c2.2, decide_true, cnd_ok, if_true, seq_nx, cat, letR_ok]
          · refine ⟨(_, r / 5 + 1000003 * (0 + (i : Int)) + 17), ?_, h.join (w := true) hab c1 fun e => by cases e⟩
            by_cases c3 : (2 : Int) < ((ps.take (at_ + size).toNat).drop at_.toNat).length
            · have c4 : ¬ r / 64 % 2 = 1 := fun e => c2 ⟨c3, e⟩
              simp only [c1', c3, c4, decide_true, decide_false, cnd_ok, if_true, Bool.false_eq_true, if_false, seq_nx, cat, letR_ok]
            · simp only [c1', c3, decide_true, decide_false, cnd_ok, if_true, Bool.false_eq_true, if_false, seq_nx, cat, letR_ok]
        · have c1' : ¬ (1 : Int) < ((ps.take (at_ + size).toNat).drop at_.toNat).length := by omega
          exact ⟨(ps, r / 5 + 1000003 * (0 + (i : Int)) + 17), by simp only [c1', decide_false, cnd_ok, Bool.false_eq_true, if_false, seq_nx], h⟩
      by_cases c5 : r / 1024 % 8 = 5
      · simp only [c5, decide_true, if_true, seq_nx]
        exact key 24 (by omega)
      · simp only [c5, decide_false, Bool.false_eq_true, if_false, seq_nx]
        exact key (2 + r % 4) (by omega)
  · obtain ⟨ps, r⟩ := s
    have h : Parts n ps := by rcases h with h | h <;> exact h
    have hp := h.pos h0
    simp only
    by_cases c : 1 < (ps.length : Int)
    · refine ⟨.node true ps, ?_, Form_node.mpr ⟨by omega, nofun, h.form⟩, by rw [leaves_node]; exact h.perm⟩
      simp only [c, decide_true, cnd_ok, if_true, letR_ok, seq_nx, atL_zero (show 0 < [Tr.node true ps].length by simp), List.getElem_cons_zero, run_rt]
    · refine ⟨ps[0], ?_, h.form _ (List.getElem_mem hp), ?_⟩
      · simp only [c, decide_false, cnd_ok, Bool.false_eq_true, if_false, letR_ok, seq_nx, atL_zero hp, run_rt]
      · match ps, hp with
        | [p], _ => simpa using h.perm
        | p :: q :: r, _ => simp at c; omega
end PC
set_option Elab.async false
set_option linter.all false
set_option maxRecDepth 100000
namespace PC
open PySem
/-- the tree tells the order -/
def Told (t : Tr) (o : List Int) : Prop := ∃ t', Same t t' ∧ t'.leaves = o
/-- one told order of each tree, one after the other -/
def TS (L : List Tr) (o : List Int) : Prop := ∃ L', SameL L L' ∧ leavesL L' = o
theorem told_leaf {i : Int} {o : List Int} : Told (.leaf i) o ↔ o = [i] := by
  constructor
  · rintro ⟨t', h, rfl⟩
    cases h; simp
  · rintro rfl; exact ⟨_, .leaf i, by simp⟩
theorem told_node {w : Bool} {ps : List Tr} {o : List Int} : Told (.node w ps) o ↔ ∃ qs, Arr w ps qs ∧ TS qs o := by
  constructor
  · rintro ⟨t', h, rfl⟩
    cases h with
    | node h1 h2 => exact ⟨_, h1, _, h2, by simp⟩
  · rintro ⟨qs, h1, L', h2, rfl⟩
    exact ⟨_, .node h1 h2, by simp⟩
theorem TS_nil {o : List Int} : TS [] o ↔ o = [] := by
  constructor
  · rintro ⟨t', h, rfl⟩
    cases h; simp
  · rintro rfl; exact ⟨_, .nil, by simp⟩
theorem TS_cons {p : Tr} {r : List Tr} {o : List Int} : TS (p :: r) o ↔ ∃ a b, Told p a ∧ TS r b ∧ o = a ++ b := by
  constructor
  · rintro ⟨t', h, rfl⟩
    cases h with
    | cons h1 h2 => exact ⟨_, _, ⟨_, h1, rfl⟩, ⟨_, h2, rfl⟩, by simp⟩
  · rintro ⟨a, b, ⟨t', h1, rfl⟩, ⟨L', h2, rfl⟩, rfl⟩
    exact ⟨_, .cons h1 h2, by simp⟩
theorem TS_append {A B : List Tr} {o : List Int} : TS (A ++ B) o ↔ ∃ a b, TS A a ∧ TS B b ∧ o = a ++ b := by
  induction A generalizing o with
  | nil =>
    simp only [List.nil_append, TS_nil]
    constructor
    · intro h; exact ⟨[], o, rfl, h, rfl⟩
    · rintro ⟨a, b, rfl, h, rfl⟩; exact h
  | cons p r ih =>
    simp only [List.cons_append, TS_cons, ih]
    constructor
    · rintro ⟨a, b, h1, ⟨c, d, h2, h3, rfl⟩, rfl⟩
      exact ⟨a ++ c, d, ⟨a, c, h1, h2, rfl⟩, h3, by simp⟩
    · rintro ⟨a, b, ⟨c, d, h1, h2, rfl⟩, h3, rfl⟩
      exact ⟨c, d ++ b, h1, ⟨d, b, h2, h3, rfl⟩, by simp⟩
theorem TS_single {p : Tr} {o : List Int} : TS [p] o ↔ Told p o := by
  simp only [TS_cons, TS_nil]
  constructor
  · rintro ⟨a, b, h, rfl, rfl⟩; simpa using h
  · intro h; exact ⟨o, [], h, rfl, by simp⟩
theorem Told.perm {t : Tr} {o : List Int} (h : Told t o) : o.Perm t.leaves := by
  obtain ⟨t', h, rfl⟩ := h
  exact h.leaves
theorem TS.perm {L : List Tr} {o : List Int} (h : TS L o) : o.Perm (leavesL L) := by
  obtain ⟨t', h, rfl⟩ := h
  exact h.leaves
theorem TS_rev_of {L : List Tr} {o : List Int} (h : TS L o) (hr : ∀ p ∈ L, ∀ o, Told p o → Told p o.reverse) : TS L.reverse o.reverse := by
  induction L generalizing o with
  | nil => rw [TS_nil] at h; subst h; exact TS_nil.mpr rfl
  | cons p r ih =>
    obtain ⟨a, b, h1, h2, rfl⟩ := TS_cons.mp h
    rw [List.reverse_cons, List.reverse_append]
    exact TS_append.mpr ⟨_, _, ih h2 fun q m => hr q (List.mem_cons_of_mem _ m), TS_single.mpr (hr p List.mem_cons_self a h1), rfl⟩
theorem Told.rev {t : Tr} : ∀ {o : List Int}, Told t o → Told t o.reverse := by
  induction t using Tr.ind with
  | hl i =>
    intro o h
    rw [told_leaf] at h
    subst h
    exact told_leaf.mpr rfl
  | hn w ps ih =>
    intro o h
    obtain ⟨qs, h1, h2⟩ := told_node.mp h
    refine told_node.mpr ⟨qs.reverse, ?_, TS_rev_of h2 fun p m o => ih p (h1.perm.mem_iff.mp m)⟩
    cases w with
    | true => exact (List.reverse_perm qs).trans h1
    | false =>
      rcases h1 with rfl | rfl
      · exact .inr rfl
      · exact .inl (by simp)
theorem TS.rev {L : List Tr} {o : List Int} (h : TS L o) : TS L.reverse o.reverse := TS_rev_of h fun p _ o => Told.rev
theorem TS_reverse {L : List Tr} {o : List Int} : TS L.reverse o ↔ TS L o.reverse := by
  constructor
  · intro h; simpa using h.rev
  · intro h; simpa using h.rev
theorem Told.same {t t' : Tr} {o : List Int} (s : Same t t') (h : Told t' o) : Told t o := by
  obtain ⟨u, h, rfl⟩ := h
  exact ⟨u, s.trans h, rfl⟩
theorem told_same {t t' : Tr} {o : List Int} (s : Same t t') : Told t o ↔ Told t' o := ⟨fun h => h.same s.symm, fun h => h.same s⟩
theorem told_self (t : Tr) : Told t t.leaves := ⟨t, .refl t, rfl⟩
/-- no chosen thing ahead of another one -/
def EndsIn (C : List Int) (o : List Int) : Prop := o.Pairwise fun x y => x ∈ C → y ∈ C
def StartsIn (C : List Int) (o : List Int) : Prop := o.Pairwise fun x y => y ∈ C → x ∈ C
/-- the set stands together -/
def Tog (C : List Int) (o : List Int) : Prop := ∀ x y z, [x, y, z].Sublist o → x ∈ C → z ∈ C → y ∈ C
def Tch (C : List Int) (o : List Int) : Prop := ∃ x ∈ o, x ∈ C
def AllIn (C : List Int) (o : List Int) : Prop := ∀ x ∈ o, x ∈ C
def NoneIn (C : List Int) (o : List Int) : Prop := ∀ x ∈ o, x ∉ C
section
variable {C : List Int} {a b c o : List Int}
theorem EndsIn.rev (h : EndsIn C o) : StartsIn C o.reverse := by
  unfold StartsIn; rw [List.pairwise_reverse]; exact h
theorem StartsIn.rev (h : StartsIn C o) : EndsIn C o.reverse := by
  unfold EndsIn; rw [List.pairwise_reverse]; exact h
theorem NoneIn.ends (h : NoneIn C a) : EndsIn C a := List.Pairwise.imp_of_mem (fun {x y} hx _ _ q => absurd q (h x hx)) (List.pairwise_of_forall (R := fun _ _ => True) fun _ _ => trivial)
theorem AllIn.ends (h : AllIn C a) : EndsIn C a := List.Pairwise.imp_of_mem (fun {x y} _ hy _ _ => h y hy) (List.pairwise_of_forall (R := fun _ _ => True) fun _ _ => trivial)
theorem NoneIn.starts (h : NoneIn C a) : StartsIn C a := List.Pairwise.imp_of_mem (fun {x y} _ hy _ q => absurd q (h y hy)) (List.pairwise_of_forall (R := fun _ _ => True) fun _ _ => trivial)
theorem AllIn.starts (h : AllIn C a) : StartsIn C a := List.Pairwise.imp_of_mem (fun {x y} hx _ _ _ => h x hx) (List.pairwise_of_forall (R := fun _ _ => True) fun _ _ => trivial)
theorem not_tch : ¬ Tch C a ↔ NoneIn C a := ⟨fun h x m q => h ⟨x, m, q⟩, fun h ⟨x, m, q⟩ => h x m q⟩
theorem sub3 {x y z : Int} : [x, y, z].Sublist (a ++ b) ↔ [x, y, z].Sublist a ∨ ([x, y].Sublist a ∧ z ∈ b) ∨ (x ∈ a ∧ [y, z].Sublist b) ∨ [x, y, z].Sublist b := by
  rw [List.sublist_append_iff]
  constructor
  · rintro ⟨l1, l2, e, h1, h2⟩
    match l1, e with
    | [], e => simp at e; subst e; exact .inr (.inr (.inr h2))
    | [p], e => simp at e; obtain ⟨rfl, rfl⟩ := e; exact .inr (.inr (.inl ⟨by simpa using h1, h2⟩))
    | [p, q], e => simp at e; obtain ⟨rfl, rfl, rfl⟩ := e; exact .inr (.inl ⟨h1, by simpa using h2⟩)
    | [p, q, r], e => simp at e; obtain ⟨rfl, rfl, rfl, rfl⟩ := e; exact .inl h1
    | p :: q :: r :: s :: t, e => simp at e
  · rintro (h | ⟨h1, h2⟩ | ⟨h1, h2⟩ | h)
    · exact ⟨[x, y, z], [], by simp, h, by simp⟩
    · exact ⟨[x, y], [z], by simp, h1, by simpa using h2⟩
    · exact ⟨[x], [y, z], by simp, by simpa using h1, h2⟩
    · exact ⟨[], [x, y, z], by simp, by simp, h⟩
theorem ends_sub : EndsIn C a ↔ ∀ x y, [x, y].Sublist a → x ∈ C → y ∈ C := by
  unfold EndsIn
  rw [List.pairwise_iff_forall_sublist]
theorem starts_sub : StartsIn C a ↔ ∀ x y, [x, y].Sublist a → y ∈ C → x ∈ C := by
  unfold StartsIn
  rw [List.pairwise_iff_forall_sublist]
theorem tog_append : Tog C (a ++ b) ↔ Tog C a ∧ Tog C b ∧ (Tch C b → EndsIn C a) ∧ (Tch C a → StartsIn C b) := by
  constructor
  · intro h
    refine ⟨fun x y z s => h x y z (sub3.mpr (.inl s)), fun x y z s => h x y z (sub3.mpr (.inr (.inr (.inr s)))), fun ⟨z, mz, hz⟩ => ends_sub.mpr fun x y s hx => h x y z (sub3.mpr (.inr (.inl ⟨s, mz⟩))) hx hz, fun ⟨x, mx, hx⟩ => starts_sub.mpr fun y z s hz => h x y z (sub3.mpr (.inr (.inr (.inl ⟨mx, s⟩)))) hx hz⟩
  · rintro ⟨h1, h2, h3, h4⟩ x y z s hx hz
    rcases sub3.mp s with s | ⟨s, m⟩ | ⟨m, s⟩ | s
    · exact h1 x y z s hx hz
    · exact ends_sub.mp (h3 ⟨z, m, hz⟩) x y s hx
    · exact starts_sub.mp (h4 ⟨x, m, hx⟩) y z s hz
    · exact h2 x y z s hx hz
theorem EndsIn.tog (h : EndsIn C a) : Tog C a := fun x y z s hx _ => ends_sub.mp h x y (List.Sublist.trans (by simp) s) hx
theorem StartsIn.tog (h : StartsIn C a) : Tog C a := fun x y z s _ hz => starts_sub.mp h y z (List.Sublist.trans (by simp) s) hz
theorem AllIn.tog (h : AllIn C a) : Tog C a := h.ends.tog
theorem NoneIn.tog (h : NoneIn C a) : Tog C a := h.ends.tog
theorem tog_free_left (h : NoneIn C a) : Tog C (a ++ b) ↔ Tog C b := by
  rw [tog_append]
  exact ⟨fun q => q.2.1, fun q => ⟨h.tog, q, fun _ => h.ends, fun t => absurd t (not_tch.mpr h)⟩⟩
theorem tog_free_right (h : NoneIn C b) : Tog C (a ++ b) ↔ Tog C a := by
  rw [tog_append]
  exact ⟨fun q => q.1, fun q => ⟨q, h.tog, fun t => absurd t (not_tch.mpr h), fun _ => h.starts⟩⟩
theorem tog_rev : Tog C o.reverse ↔ Tog C o := by
  have key : ∀ o, Tog C o → Tog C o.reverse := fun o h x y z s hx hz => h z y x (by have := s.reverse; simpa using this) hz hx
  exact ⟨fun h => by simpa using key _ h, key o⟩
end
end PC
set_option Elab.async false
set_option linter.all false
set_option maxRecDepth 100000
namespace PC
open PySem
inductive Sh where
  | n | s | a
deriving DecidableEq
def Sh.str : Sh → Str
  | .n => "none"
  | .s => "some"
  | .a => "all"
section
variable {C : List Int}
theorem NoneIn.perm {a b : List Int} (h : NoneIn C a) (p : b.Perm a) : NoneIn C b := fun x m => h x (p.mem_iff.mp m)
theorem AllIn.perm {a b : List Int} (h : AllIn C a) (p : b.Perm a) : AllIn C b := fun x m => h x (p.mem_iff.mp m)
theorem Tch.perm {a b : List Int} (h : Tch C a) (p : b.Perm a) : Tch C b := by
  obtain ⟨x, m, q⟩ := h
  exact ⟨x, p.mem_iff.mpr m, q⟩
def TSE (C : List Int) : List Tr → List Int → Prop
  | [], o => o = []
  | p :: r, o => ∃ a b, (Told p a ∧ EndsIn C a) ∧ TSE C r b ∧ o = a ++ b
theorem TSE.ts {L : List Tr} {o : List Int} (h : TSE C L o) : TS L o := by
  induction L generalizing o with
  | nil => exact TS_nil.mpr h
  | cons p r ih =>
    obtain ⟨a, b, h1, h2, rfl⟩ := h
    exact TS_cons.mpr ⟨a, b, h1.1, ih h2, rfl⟩
theorem mem_leavesL {L : List Tr} {x : Int} : x ∈ leavesL L ↔ ∃ p ∈ L, x ∈ p.leaves := by
  rw [leavesL_eq, List.mem_flatten]
  constructor
  · rintro ⟨l, m, h⟩
    obtain ⟨p, mp, rfl⟩ := List.mem_map.mp m
    exact ⟨p, mp, h⟩
  · rintro ⟨p, m, h⟩
    exact ⟨_, List.mem_map.mpr ⟨p, m, rfl⟩, h⟩
end
end PC
set_option Elab.async false
set_option linter.all false
set_option maxRecDepth 100000
namespace PC
open PySem
section
variable {C : List Int}
theorem parts_len {L : List Tr} (h : ∀ p ∈ L, p.Form) : L.length ≤ (leavesL L).length := by
  induction L with
  | nil => simp
  | cons p r ih =>
    have := ih fun q m => h q (List.mem_cons_of_mem _ m)
    have := leaves_pos p (h p List.mem_cons_self)
    simp; omega
end
end PC
set_option Elab.async false
set_option linter.all false
set_option maxRecDepth 100000
namespace PC
open PySem
section
variable {C : List Int}
def ArrAt (w : Bool) (A B X Y : List Tr) : Prop := match w with
  | true => (X ++ Y).Perm (A ++ B)
  | false => (X = A ∧ Y = B) ∨ (X = B.reverse ∧ Y = A.reverse)
theorem ArrAt.mem {w : Bool} {A B X Y : List Tr} (h : ArrAt w A B X Y) : ∀ p, p ∈ X ++ Y → p ∈ A ++ B := by
  intro p m
  cases w with
  | true => exact List.Perm.mem_iff h |>.mp m
  | false =>
    rcases h with ⟨rfl, rfl⟩ | ⟨rfl, rfl⟩
    · exact m
    · simp only [List.mem_append, List.mem_reverse] at m ⊢
      exact m.symm
end
end PC
set_option Elab.async false
set_option linter.all false
set_option maxRecDepth 100000
namespace PC
open PySem
section
variable {C : List Int}
/-- at least one tree that is ended by the chosen things -/
structure End1 (C : List Int) (t : Tr) (X : List Tr) : Prop where
  ne : X ≠ []
  form : ∀ p ∈ X, p.Form
  perm : (leavesL X).Perm t.leaves
  ts : ∀ o, TS X o ↔ Told t o ∧ EndsIn C o
/-- read from the other side -/
theorem End1.starts {t : Tr} {X : List Tr} (h : End1 C t X) (o : List Int) : TS X.reverse o ↔ Told t o ∧ StartsIn C o := by
  rw [TS_reverse, h.ts]
  constructor
  · rintro ⟨h1, h2⟩; exact ⟨by simpa using h1.rev, by simpa using h2.rev⟩
  · rintro ⟨h1, h2⟩; exact ⟨h1.rev, h2.rev⟩
end
end PC
set_option Elab.async false
set_option linter.all false
set_option maxRecDepth 100000
namespace PC
open PySem
end PC
set_option Elab.async false
set_option linter.all false
set_option maxRecDepth 100000
namespace PC
open PySem
end PC
set_option Elab.async false
set_option linter.all false
set_option maxRecDepth 100000
namespace PC
open PySem
/-- part i is the next one -/
def NextP (ps : List Tr) (s : List Int × List Int) (i : Nat) : Prop := ∃ p, ps[i]? = some p ∧ (i : Int) ∉ s.2 ∧ (s.1.take p.leaves.length).Perm p.leaves
theorem step_of {σ ρ : Type} {x : Fl σ ρ} {P : σ → Prop} {B : σ → Prop} {Rt : ρ → Prop} {Ex : _ → Prop} (h : (∃ s', x = .nx s' ∧ P s') ∨ ∃ v, x = .rt v ∧ Rt v) : (∃ s', x = .nx s' ∧ P s') ∨ (∃ s', x = .bk s' ∧ B s') ∨ (∃ v, x = .rt v ∧ Rt v) ∨ ∃ c, x = .ex c ∧ Ex c := by
  rcases h with h | h
  · exact .inl h
  · exact .inr (.inr (.inl h))
theorem perm_of_sub : ∀ {a b : List Int}, a.Nodup → (∀ x ∈ a, x ∈ b) → b.length ≤ a.length → a.Perm b
  | [], b, _, _, h => by
    have : b = [] := List.length_eq_zero_iff.mp (by simpa using h)
    rw [this]
  | x :: a, b, hn, hs, hl => by
    have m := hs x List.mem_cons_self
    obtain ⟨n1, n2⟩ := List.nodup_cons.mp hn
    refine ((perm_of_sub n2 (b := b.erase x) (fun y hy => ?_) ?_).cons x).trans (List.perm_cons_erase m).symm
    · exact (List.mem_erase_of_ne (by rintro rfl; exact n1 hy)).mpr (hs y (List.mem_cons_of_mem _ hy))
    · rw [List.length_erase_of_mem m]
      simp at hl
      omega
open Classical in
theorem told_loop {k : Nat} {w : Bool} {ps : List Tr} {o : List Int} {res : Bool} (Inv : Nat → List Int × List Int → Prop) (hps : ps.length ≤ 1000)
    (things : ∀ p ∈ ps, f_law_things k p = .ok p.leaves) (told : ∀ p ∈ ps, ∀ b, b.Perm p.leaves → f_law_told k p b = .ok (decide (Told p b)))
    (h0 : Inv 0 (o, [])) (hlen : ∀ i s, Inv i s → s.2.length ≤ i)
    (hN : ∀ i s, i < ps.length → Inv i s → (∀ j, ¬ NextP ps s j) → Inv (i + 1) s)
    (hM : ∀ i s j p, i < ps.length → Inv i s → ps[j]? = some p → NextP ps s j → Told p (s.1.take p.leaves.length) → Inv (i + 1) (s.1.drop p.leaves.length, s.2 ++ [(j : Int)]))
    (hF : ∀ i s j p, i < ps.length → Inv i s → ps[j]? = some p → NextP ps s j → ¬ Told p (s.1.take p.leaves.length) → res = false)
    (hK : ∀ s, Inv ps.length s → (if s.2.length < ps.length ∨ 0 < s.1.length then false else (w || (decide (s.2 = isort s.2) || decide (s.2 = (isort s.2).reverse)))) = res) :
    f_law_told (k + 1) (.node w ps) o = .ok res := by
  simp only [f_law_told, Tr.isLeaf, cnd_ok, Bool.false_eq_true, if_false, letR_ok, Tr.parts, bnd_ok, rng0 (show ps.length ≤ 1000000 by omega), Tr.word]
  refine seq_gen (G := fun x => Fl.run x .st = .ok res) Inv h0 (fun i hi s hs => ?_) fun s hs => ?_
  · rw [iota_len] at hi
    have sl := hlen i s hs
    refine step_of ?_
    refine seq_gen (G := fun x => (∃ s', x = .nx s' ∧ Inv (i + 1) s') ∨ ∃ v, x = .rt v ∧ Fl.run (.rt v) .st = .ok res) (fun j s' => s' = s ∧ ∀ j' < j, ¬ NextP ps s j') ⟨rfl, fun j h => by omega⟩ (fun j hj s' hh => ?_) fun s' hh => ?_
    · obtain ⟨e, hno⟩ := hh
      subst e
      rw [iota_getE hj]
      rw [iota_len] at hj
      have ej : (0 : Int) + (j : Int) = (j : Int) := by omega
      rw [ej]
      have gp : ps[j]? = some ps[j] := List.getElem?_eq_getElem hj
      have mp : ps[j] ∈ ps := List.getElem_mem hj
      have ga : atL ps (j : Int) = .ok ps[j] := atL_nat gp
      simp only [ga, bnd_ok, things _ mp, letR_ok, cut_take (show (0 : Int) ≤ ps[j].leaves.length by omega), cut_drop (show (0 : Int) ≤ ps[j].leaves.length by omega), Int.toNat_natCast]
      by_cases cm : NextP ps s' j
      · obtain ⟨p, hp, h1, h2⟩ := cm
        rw [gp] at hp
        cases hp
        have b1 : (!memB (j : Int) s'.2) = true := by simp [h1]
        have b2 : decide (isort (s'.1.take ps[j].leaves.length) = isort ps[j].leaves) = true := decide_eq_true (isort_eq h2)
        simp only [b1, b2, if_true, cnd_ok, told _ mp _ h2, bnd_ok]
        have cm : NextP ps s' j := ⟨_, gp, h1, h2⟩
        by_cases ct : Told ps[j] (s'.1.take ps[j].leaves.length)
        · right; left
          refine ⟨(s'.1.drop ps[j].leaves.length, s'.2 ++ [(j : Int)]), ?_, .inl ⟨_, rfl, hM i s' j _ hi hs gp cm ct⟩⟩
          simp only [ct, decide_true, Bool.not_true, Bool.false_eq_true, if_false]
          rw [appL_ok (by omega)]
        · right; right; left
          refine ⟨false, by simp only [ct, decide_false, Bool.not_false, if_true], .inr ⟨false, rfl, ?_⟩⟩
          rw [hF i s' j _ hi hs gp cm ct]; rfl
      · left
        refine ⟨s', ?_, rfl, fun j' h => ?_⟩
        · by_cases c1 : (j : Int) ∈ s'.2
          · have b1 : (!memB (j : Int) s'.2) = false := by simp [c1]
            simp only [b1, Bool.false_eq_true, if_false, cnd_ok]
          · have b1 : (!memB (j : Int) s'.2) = true := by simp [c1]
            have b2 : decide (isort (s'.1.take ps[j].leaves.length) = isort ps[j].leaves) = false := by
              rw [decide_eq_false_iff_not]
              intro e
              exact cm ⟨_, gp, c1, isort_iff.mp e⟩
            simp only [b1, b2, if_true, Bool.false_eq_true, if_false, cnd_ok]
        · by_cases c : j' = j
          · rw [c]; exact cm
          · exact hno j' (by omega)
    · obtain ⟨e, hno⟩ := hh
      subst e
      rw [iota_len] at hno
      refine .inl ⟨_, rfl, hN i s' hi hs fun j cm => ?_⟩
      obtain ⟨p, hp, _⟩ := id cm
      exact hno j (List.getElem?_eq_some_iff.mp hp).1 cm
  · rw [iota_len] at hs
    have := hK s hs
    by_cases c : s.2.length < ps.length ∨ 0 < s.1.length
    · rw [if_pos c] at this
      have : (decide ((s.2.length : Int) < (ps.length : Int)) || decide ((0 : Int) < (s.1.length : Int))) = true := by
        rw [Bool.or_eq_true]
        rcases c with c | c
        · exact .inl (decide_eq_true (by omega))
        · exact .inr (decide_eq_true (by omega))
      simp only [this, if_true, run_rt]
      rw [← hK s hs, if_pos c]
    · rw [if_neg c] at this
      have b : (decide ((s.2.length : Int) < (ps.length : Int)) || decide ((0 : Int) < (s.1.length : Int))) = false := by
        rw [Bool.or_eq_false_iff]
        exact ⟨decide_eq_false (by omega), decide_eq_false (by omega)⟩
      simp only [b, Bool.false_eq_true, if_false, run_rt, this]
/-- disjoint parts -/
theorem parts_disj {ps : List Tr} (hn : (leavesL ps).Nodup) {i j : Nat} {p q : Tr} (hi : ps[i]? = some p) (hj : ps[j]? = some q) {x : Int} (h1 : x ∈ p.leaves) (h2 : x ∈ q.leaves) : i = j := by
  induction ps generalizing i j with
  | nil => simp at hi
  | cons t r ih =>
    rw [leavesL_cons] at hn
    obtain ⟨n1, n2, n3⟩ := List.nodup_append.mp hn
    cases i with
    | zero =>
      cases j with
      | zero => rfl
      | succ j =>
        simp at hi hj
        subst hi
        exact absurd rfl (n3 x h1 x (mem_leavesL.mpr ⟨q, List.mem_of_getElem? hj, h2⟩))
    | succ i =>
      cases j with
      | zero =>
        simp at hi hj
        subst hj
        exact absurd rfl (n3 x h2 x (mem_leavesL.mpr ⟨p, List.mem_of_getElem? hi, h1⟩))
      | succ j =>
        have := ih n2 (i := i) (j := j) (by simpa using hi) (by simpa using hj)
        omega
/-- a list of places of the parts -/
def byIx (ps : List Tr) (l : List Int) : List Tr := l.map fun i => ps.getD i.toNat (.leaf 0)
theorem byIx_iota (ps : List Tr) : byIx ps (iota 0 ps.length) = ps := by
  unfold byIx
  apply List.ext_getElem?
  intro i
  rw [List.getElem?_map, iota_get?]
  by_cases h : i < ps.length
  · simp [h]
  · simp [h]
theorem byIx_perm {ps : List Tr} {l : List Int} (h : l.Perm (iota 0 ps.length)) : (byIx ps l).Perm ps := by
  have := h.map fun i => ps.getD i.toNat (Tr.leaf 0)
  exact this.trans (by rw [show (iota 0 ps.length).map (fun i => ps.getD i.toNat (Tr.leaf 0)) = byIx ps (iota 0 ps.length) from rfl, byIx_iota])
theorem perm_byIx {ps qs : List Tr} (h : qs.Perm ps) : ∃ l, l.Perm (iota 0 ps.length) ∧ qs = byIx ps l := by
  have key : ∀ {a b : List Tr}, a.Perm b → ∀ l : List Int, b = byIx ps l → ∃ l', l'.Perm l ∧ a = byIx ps l' := by
    intro a b h
    induction h with
    | nil => intro l e; exact ⟨[], by cases l with | nil => exact .refl _ | cons x r => simp [byIx] at e, rfl⟩
    | cons x _ ih =>
      intro l e
      cases l with
      | nil => simp [byIx] at e
      | cons y r =>
        simp only [byIx, List.map_cons, List.cons.injEq] at e
        obtain ⟨l', p, e2⟩ := ih r e.2
        exact ⟨y :: l', p.cons y, by simp only [byIx, List.map_cons]; rw [e.1, e2]; rfl⟩
    | swap x y t =>
      intro l e
      match l, e with
      | a :: b :: r, e =>
        simp only [byIx, List.map_cons, List.cons.injEq] at e
        exact ⟨b :: a :: r, .swap _ _ _, by simp only [byIx, List.map_cons]; rw [e.1, e.2.1, e.2.2]⟩
      | [a], e => simp [byIx] at e
      | [], e => simp [byIx] at e
    | trans _ _ ih1 ih2 =>
      intro l e
      obtain ⟨l2, p2, e2⟩ := ih2 l e
      obtain ⟨l1, p1, e1⟩ := ih1 l2 e2
      exact ⟨l1, p1.trans p2, e1⟩
  exact key h _ (byIx_iota ps).symm
theorem byIx_append {ps : List Tr} {a b : List Int} : byIx ps (a ++ b) = byIx ps a ++ byIx ps b := by unfold byIx; rw [List.map_append]
theorem iota_rev_sorted {l : List Int} {n : Nat} (h : l.Perm (iota 0 n)) : isort l = iota 0 n := isort_iota.mpr h
open Classical in
theorem law_told_ok : ∀ {k : Nat} {t : Tr} {o : List Int}, t.dep + 2 ≤ k → t.Form → t.leaves.Nodup → t.leaves.length ≤ 1000 → o.Perm t.leaves → f_law_told k t o = .ok (decide (Told t o)) := by
  intro k
  induction k with
  | zero => intro t o h; omega
  | succ k ih =>
    intro t o h hf hn hl hp
    cases t with
    | leaf i =>
      rw [leaves_leaf, List.perm_singleton] at hp
      subst hp
      have : Told (.leaf i) [i] := told_leaf.mpr rfl
      simp [f_law_told, Tr.isLeaf, Tr.thing, this]
    | node w ps =>
      obtain ⟨f1, f2, f3⟩ := Form_node.mp hf
      rw [leaves_node] at hn hl hp
      have hpl := parts_len f3
      have dp : ∀ p ∈ ps, p.dep + 2 ≤ k := fun p m => by have := dep_part (w := w) m; omega
      have things : ∀ p ∈ ps, f_law_things k p = .ok p.leaves := fun p m => law_things_ok (by have := dp p m; omega) (by have := len_part m; omega)
      have told : ∀ p ∈ ps, ∀ b, b.Perm p.leaves → f_law_told k p b = .ok (decide (Told p b)) := fun p m b hb => ih (dp p m) (f3 p m) (nodup_part m hn) (by have := len_part m; omega) hb
      have getD_some : ∀ {j : Nat} {p : Tr}, ps[j]? = some p → ps.getD j (.leaf 0) = p := fun h => by rw [List.getD_eq_getElem?_getD, h]; rfl
      by_cases ht : Told (.node w ps) o
      · -- the told sequence is found
        rw [decide_eq_true ht]
        obtain ⟨qs, h1, h2⟩ := told_node.mp ht
        obtain ⟨l, pl, rfl⟩ := perm_byIx h1.perm
        have ll : l.length = ps.length := by rw [pl.length_eq, iota_len]
        have lnd : l.Nodup := pl.nodup_iff.mpr (iota_nodup _ _)
        have lr : ∀ x ∈ l, 0 ≤ x ∧ x.toNat < ps.length := fun x m => by have := iota_mem.mp (pl.mem_iff.mp m); omega
        refine told_loop (Inv := fun i s => s.2 = l.take i ∧ TS (byIx ps (l.drop i)) s.1) (by omega) things told ⟨by simp, by simpa using h2⟩ (fun i s ⟨e, _⟩ => by rw [e, List.length_take]; omega) ?_ ?_ ?_ ?_
        -- what stands next
        · intro i s hi ⟨e1, e2⟩ hno
          exfalso
          have hil : i < l.length := by omega
          rw [List.drop_eq_getElem_cons hil] at e2
          simp only [byIx, List.map_cons] at e2
          obtain ⟨a, b, k1, _, e3⟩ := TS_cons.mp e2
          have hx := lr _ (List.getElem_mem hil)
          have gp : ps[(l[i]).toNat]? = some ps[(l[i]).toNat] := List.getElem?_eq_getElem hx.2
          rw [getD_some gp] at k1
          refine hno (l[i]).toNat ⟨_, gp, ?_, ?_⟩
          · rw [e1]
            have : ((l[i].toNat : Nat) : Int) = l[i] := by omega
            rw [this]
            intro m
            have e := List.take_append_drop i l
            rw [List.drop_eq_getElem_cons hil] at e
            rw [← e] at lnd
            exact (List.nodup_append.mp lnd).2.2 _ m _ List.mem_cons_self rfl
          · rw [e3, ← k1.perm.length_eq, List.take_left]
            exact k1.perm
        · intro i s j p hi ⟨e1, e2⟩ hj ⟨p', hp', m1, m2⟩ hT
          rw [hj] at hp'
          cases hp'
          have hil : i < l.length := by omega
          have e2' := e2
          rw [List.drop_eq_getElem_cons hil] at e2
          simp only [byIx, List.map_cons] at e2
          obtain ⟨a, b, k1, k2, e3⟩ := TS_cons.mp e2
          have hx := lr _ (List.getElem_mem hil)
          have gp : ps[(l[i]).toNat]? = some ps[(l[i]).toNat] := List.getElem?_eq_getElem hx.2
          rw [getD_some gp] at k1
          have la : 0 < a.length := by rw [k1.perm.length_eq]; exact leaves_pos _ (f3 _ (List.getElem_mem hx.2))
          have lp : 0 < p.leaves.length := leaves_pos _ (f3 _ (List.mem_of_getElem? hj))
          -- the first thing lies in both
          have hj2 : j = (l[i]).toNat := by
            have c1 : a[0] ∈ p.leaves := by
              refine m2.mem_iff.mp ?_
              rw [e3, List.mem_take_iff_getElem]
              exact ⟨0, by simp; omega, by rw [List.getElem_append_left la]⟩
            exact parts_disj hn hj gp c1 (k1.perm.mem_iff.mp (List.getElem_mem la))
          subst hj2
          have : p = ps[(l[i]).toNat]'hx.2 := by rw [gp] at hj; cases hj; rfl
          subst this
          refine ⟨?_, ?_⟩
          · show s.2 ++ [((l[i].toNat : Nat) : Int)] = _
            have : ((l[i].toNat : Nat) : Int) = l[i] := by omega
            rw [this, e1, List.take_succ, List.getElem?_eq_getElem hil]; rfl
          · show TS (byIx ps (l.drop (i + 1))) (s.1.drop _)
            rw [e3, ← k1.perm.length_eq, List.drop_left]
            exact k2
        · intro i s j p hi ⟨e1, e2⟩ hj ⟨p', hp', m1, m2⟩ hT
          exfalso
          rw [hj] at hp'
          cases hp'
          have hil : i < l.length := by omega
          rw [List.drop_eq_getElem_cons hil] at e2
          simp only [byIx, List.map_cons] at e2
          obtain ⟨a, b, k1, k2, e3⟩ := TS_cons.mp e2
          have hx := lr _ (List.getElem_mem hil)
          have gp : ps[(l[i]).toNat]? = some ps[(l[i]).toNat] := List.getElem?_eq_getElem hx.2
          rw [getD_some gp] at k1
          have la : 0 < a.length := by rw [k1.perm.length_eq]; exact leaves_pos _ (f3 _ (List.getElem_mem hx.2))
          have lp : 0 < p.leaves.length := leaves_pos _ (f3 _ (List.mem_of_getElem? hj))
          have hj2 : j = (l[i]).toNat := by
            have c1 : a[0] ∈ p.leaves := by
              refine m2.mem_iff.mp ?_
              rw [e3, List.mem_take_iff_getElem]
              exact ⟨0, by simp; omega, by rw [List.getElem_append_left la]⟩
            exact parts_disj hn hj gp c1 (k1.perm.mem_iff.mp (List.getElem_mem la))
          subst hj2
          have : p = ps[(l[i]).toNat]'hx.2 := by rw [gp] at hj; cases hj; rfl
          subst this
          rw [e3, ← k1.perm.length_eq, List.take_left] at hT
          exact hT k1
        · intro s ⟨e1, e2⟩
          have e3 : s.1 = [] := by
            rw [← ll, List.drop_length] at e2
            exact TS_nil.mp e2
          have e4 : s.2 = l := by rw [e1, ← ll, List.take_length]
          rw [if_neg (by rw [e3, e4, ll]; simp), e4]
          cases w with
          | true => rfl
          | false =>
            have es := iota_rev_sorted pl
            have inj : ∀ {a b : List Int}, a.Perm (iota 0 ps.length) → b.Perm (iota 0 ps.length) → byIx ps a = byIx ps b → a = b := by
              intro a b ha hb e
              have la : a.length = ps.length := by rw [ha.length_eq, iota_len]
              have lb : b.length = ps.length := by rw [hb.length_eq, iota_len]
              apply List.ext_getElem (by omega)
              intro i h1 h2
              have ra := iota_mem.mp (ha.mem_iff.mp (List.getElem_mem h1))
              have rb := iota_mem.mp (hb.mem_iff.mp (List.getElem_mem h2))
              have ga : ps[(a[i]).toNat]? = some (ps[(a[i]).toNat]'(by omega)) := List.getElem?_eq_getElem (by omega)
              have gb : ps[(b[i]).toNat]? = some (ps[(b[i]).toNat]'(by omega)) := List.getElem?_eq_getElem (by omega)
              have e2 : (byIx ps a)[i]? = (byIx ps b)[i]? := by rw [e]
              simp only [byIx, List.getElem?_map, List.getElem?_eq_getElem h1, List.getElem?_eq_getElem h2, Option.map_some, getD_some ga, getD_some gb, Option.some.injEq] at e2
              have m := leaves_pos _ (f3 _ (List.mem_of_getElem? ga))
              have x1 := List.getElem_mem m
              have := parts_disj hn ga gb x1 (by rw [← e2]; exact x1)
              omega
            rcases h1 with h1 | h1
            · have : l = iota 0 ps.length := inj pl (.refl _) (by rw [byIx_iota]; exact h1)
              rw [es, this]; simp
            · have : l = (iota 0 ps.length).reverse := inj pl (List.reverse_perm _) (by
                rw [h1]
                unfold byIx
                rw [List.map_reverse]
                congr 1
                exact (byIx_iota ps).symm)
              rw [es, this]; simp
      · -- nothing is told that is not
        rw [decide_eq_false ht]
        refine told_loop (Inv := fun i s => s.2.length ≤ i ∧ s.2.Nodup ∧ (∀ x ∈ s.2, 0 ≤ x ∧ x.toNat < ps.length) ∧ ∃ a, TS (byIx ps s.2) a ∧ o = a ++ s.1) (by omega) things told ⟨by simp, .nil, (fun x m => by cases m), [], TS_nil.mpr rfl, rfl⟩ (fun i s h => h.1) ?_ ?_ (fun _ _ _ _ _ _ _ _ _ => rfl) ?_
        · rintro i s hi ⟨h1, h2⟩ _
          exact ⟨by omega, h2⟩
        · rintro i s j p hi ⟨h1, h2, h3, a, h4, h5⟩ hj ⟨p', hp', m1, m2⟩ hT
          refine ⟨by simp; omega, ?_, ?_, a ++ s.1.take p.leaves.length, ?_, ?_⟩
          · rw [List.nodup_append]
            exact ⟨h2, by simp, fun x hx y hy e => by simp at hy; subst e; subst hy; exact m1 hx⟩
          · intro x m
            simp only [List.mem_append, List.mem_singleton] at m
            rcases m with m | rfl
            · exact h3 x m
            · exact ⟨by omega, by simpa using (List.getElem?_eq_some_iff.mp hj).1⟩
          · rw [byIx_append]
            refine TS_append.mpr ⟨a, _, h4, ?_, rfl⟩
            simp only [byIx, List.map_cons, List.map_nil, Int.toNat_natCast, getD_some hj]
            exact TS_single.mpr hT
          · rw [h5, List.append_assoc, List.take_append_drop]
        · rintro s ⟨h1, h2, h3, a, h4, h5⟩
          by_cases c : s.2.length < ps.length ∨ 0 < s.1.length
          · rw [if_pos c]
          · rw [if_neg c]
            have e1 : s.1 = [] := List.length_eq_zero_iff.mp (by omega)
            have e2 : s.2.length = ps.length := by omega
            rw [e1, List.append_nil] at h5
            subst h5
            have pl : s.2.Perm (iota 0 ps.length) := by
              refine perm_of_sub h2 (fun x m => ?_) (by rw [iota_len]; omega)
              have := h3 x m
              exact iota_mem.mpr (by omega)
            have es := iota_rev_sorted pl
            rw [es]
            cases w with
            | true => exact absurd (told_node.mpr ⟨byIx ps s.2, (show Arr true ps _ from byIx_perm pl), h4⟩) ht
            | false =>
              have n1 : s.2 ≠ iota 0 ps.length := fun e => by
                rw [e, byIx_iota] at h4
                exact ht (told_node.mpr ⟨ps, (show Arr false ps ps from .inl rfl), h4⟩)
              have n2 : s.2 ≠ (iota 0 ps.length).reverse := fun e => by
                rw [e] at h4
                have : byIx ps (iota 0 ps.length).reverse = ps.reverse := by
                  unfold byIx
                  rw [List.map_reverse]
                  congr 1
                  exact byIx_iota ps
                rw [this] at h4
                exact ht (told_node.mpr ⟨ps.reverse, (show Arr false ps _ from .inr rfl), h4⟩)
              simp [n1, n2]
end PC
set_option Elab.async false
set_option linter.all false
set_option maxRecDepth 100000
namespace PC
open PySem
theorem len_of_sub : ∀ {a b : List Int}, a.Nodup → (∀ x ∈ a, x ∈ b) → a.length ≤ b.length
  | [], b, _, _ => by simp
  | x :: a, b, hn, hs => by
    have m := hs x List.mem_cons_self
    obtain ⟨n1, n2⟩ := List.nodup_cons.mp hn
    have := len_of_sub n2 (b := b.erase x) fun y hy => (List.mem_erase_of_ne (by rintro rfl; exact n1 hy)).mpr (hs y (List.mem_cons_of_mem _ hy))
    rw [List.length_erase_of_mem m] at this
    have := List.length_pos_of_mem m
    simp
    omega
theorem sort_nodup {l : List Int} (h : l.Pairwise (· < ·)) : l.Nodup := h.imp fun h => by omega
theorem perm_of_iff {a b : List Int} (ha : a.Nodup) (hb : b.Nodup) (h : ∀ x, x ∈ a ↔ x ∈ b) : a.Perm b := perm_of_sub ha (fun x m => (h x).mp m) (len_of_sub hb fun x m => (h x).mpr m)
/-- a set of n things, as the program keeps it -/
structure VSet (n : Nat) (C : List Int) : Prop where
  sort : C.Pairwise (· < ·)
  mem : ∀ x ∈ C, 0 ≤ x ∧ x < n
theorem VSet.len {n : Nat} {C : List Int} (h : VSet n C) : C.length ≤ n := by
  have := len_of_sub (sort_nodup h.sort) (b := iota 0 n) fun x m => iota_mem.mpr (by have := h.mem x m; omega)
  rwa [iota_len] at this
theorem idx3 {o : List Int} {x y z : Int} : [x, y, z].Sublist o ↔ ∃ i j l : Nat, i < j ∧ j < l ∧ o[i]? = some x ∧ o[j]? = some y ∧ o[l]? = some z := by
  constructor
  · intro h
    obtain ⟨r1, r2, rfl, h1, h2⟩ := List.cons_sublist_iff.mp h
    obtain ⟨s1, s2, rfl, h3, h4⟩ := List.cons_sublist_iff.mp h2
    have h5 : z ∈ s2 := by simpa using h4
    obtain ⟨i, hi, e1⟩ := List.getElem_of_mem h1
    obtain ⟨j, hj, e2⟩ := List.getElem_of_mem h3
    obtain ⟨l, hl, e3⟩ := List.getElem_of_mem h5
    refine ⟨i, r1.length + j, r1.length + (s1.length + l), by omega, by omega, ?_, ?_, ?_⟩
    · rw [List.getElem?_append_left hi, List.getElem?_eq_getElem hi, e1]
    · rw [List.getElem?_append_right (by omega), Nat.add_sub_cancel_left, List.getElem?_append_left hj, List.getElem?_eq_getElem hj, e2]
    · rw [List.getElem?_append_right (by omega), Nat.add_sub_cancel_left, List.getElem?_append_right (by omega), Nat.add_sub_cancel_left, List.getElem?_eq_getElem hl, e3]
  · rintro ⟨i, j, l, h1, h2, e1, e2, e3⟩
    refine List.cons_sublist_iff.mpr ⟨o.take (i + 1), o.drop (i + 1), (List.take_append_drop _ _).symm, ?_, ?_⟩
    · exact List.mem_of_getElem? (i := i) (by rw [List.getElem?_take, if_pos (by omega), e1])
    refine List.cons_sublist_iff.mpr ⟨(o.drop (i + 1)).take (j - i), (o.drop (i + 1)).drop (j - i), (List.take_append_drop _ _).symm, ?_, ?_⟩
    · exact List.mem_of_getElem? (i := j - (i + 1)) (by rw [List.getElem?_take, if_pos (by omega), List.getElem?_drop, ← e2]; congr 1; omega)
    · rw [List.singleton_sublist]
      exact List.mem_of_getElem? (i := l - (j + 1)) (by rw [List.getElem?_drop, List.getElem?_drop, ← e3]; congr 1; omega)
theorem drawn_ok : ∀ {k : Nat} {t : Tr} {c : Int}, t.dep + 3 ≤ k → t.Form → t.leaves.length ≤ 1000 → ∃ o, f_law_drawn_order k t c = .ok o ∧ Told t o := by
  intro k
  induction k with
  | zero => intro t c h; omega
  | succ k ih =>
    intro t c h hf hl
    cases t with
    | leaf i => exact ⟨[i], by simp [f_law_drawn_order, Tr.isLeaf, Tr.thing], told_leaf.mpr rfl⟩
    | node w ps =>
      obtain ⟨t', e1, hs⟩ := shuffled_ok (k := k) (t := .node w ps) (c := c) (by omega) hf hl
      have hd := hs.dep
      have hf' := hs.form hf
      have hl' := hs.leaves.length_eq
      have tw : ∃ qs, t' = .node w qs := by cases hs; exact ⟨_, rfl⟩
      obtain ⟨qs, rfl⟩ := tw
      obtain ⟨f1, f2, f3⟩ := Form_node.mp hf'
      rw [leaves_node] at hl'
      have d3 := tdiv_ok (i := c) (show (0 : Int) < 3 by decide) (by decide)
      simp only [f_law_drawn_order, Tr.isLeaf, cnd_ok, Bool.false_eq_true, if_false, letR_ok, e1, bnd_ok, Tr.parts, d3]
      refine seq_inv (G := fun x => ∃ o, Fl.run x .st = .ok o ∧ Told (.node w ps) o) (fun i s => TS (qs.take i) s) (by simpa using TS_nil.mpr rfl) (fun i hi s h1 => ?_) fun s h1 => ?_
      · have m := List.getElem_mem hi
        obtain ⟨o, e2, h2⟩ := ih (t := qs[i]) (c := c / 3 + 11) (by have := dep_part (w := w) m; omega) (f3 _ m) (by have := len_part m; omega)
        have l1 := h1.perm.length_eq
        have l2 := h2.perm.length_eq
        have l3 : (leavesL (qs.take i ++ qs.drop i)).length = (leavesL qs).length := by rw [List.take_append_drop]
        rw [leavesL_append, List.length_append] at l3
        have l4 := len_part m
        refine ⟨s ++ o, ?_, ?_⟩
        · simp only [e2, bnd_ok]
          rw [catL_ok (by omega)]
          rfl
        · have et : qs.take (i + 1) = qs.take i ++ [qs[i]] := by rw [List.take_succ, List.getElem?_eq_getElem hi]; rfl
          rw [et]
          exact TS_append.mpr ⟨s, o, h1, TS_single.mpr h2, rfl⟩
      · rw [List.take_length] at h1
        refine ⟨s, rfl, ?_⟩
        refine (told_same hs).mpr (told_node.mpr ⟨qs, ?_, h1⟩)
        cases w
        · exact .inl rfl
        · exact List.Perm.refl _
theorem Over.drawn {k n : Nat} {t : Tr} {c : Int} (h : Over n t) (hn : n ≤ 24) (hk : 30 ≤ k) : ∃ o, f_law_drawn_order k t c = .ok o ∧ Told t o ∧ Ord n o := by
  obtain ⟨o, e, ht⟩ := drawn_ok (k := k) (t := t) (c := c) (by have := h.dep; omega) h.form (by rw [h.len]; omega)
  exact ⟨o, e, ht, ht.perm.trans h.perm⟩
open Classical in
theorem Over.told {k n : Nat} {t : Tr} {o : List Int} (h : Over n t) (ho : Ord n o) (hn : n ≤ 24) (hk : 30 ≤ k) : f_law_told k t o = .ok (decide (Told t o)) := law_told_ok (by have := h.dep; omega) h.form h.nodup (by rw [h.len]; omega) (ho.trans h.perm.symm)
theorem Ord.len {n : Nat} {o : List Int} (h : Ord n o) : o.length = n := by rw [h.length_eq, iota_len]
end PC
set_option Elab.async false
set_option linter.all false
set_option maxRecDepth 100000
namespace PC
open PySem
/-- every set of a table stands together -/
def TogS (S : List (List Int)) (o : List Int) : Prop := ∀ C ∈ S, Tog C o
theorem TS_leaf : ∀ {l o : List Int}, TS (l.map Tr.leaf) o ↔ o = l
  | [], o => TS_nil
  | x :: l, o => by
    rw [List.map_cons, TS_cons]
    constructor
    · rintro ⟨a, b, h1, h2, rfl⟩
      rw [told_leaf.mp h1, TS_leaf.mp h2]; rfl
    · rintro rfl
      exact ⟨[x], l, told_leaf.mpr rfl, TS_leaf.mpr rfl, rfl⟩
/-- what the tree of a table is -/
def TreeOk (n : Nat) (S : List (List Int)) : Option Tr → Prop
  | none => ∀ o, Ord n o → ¬ TogS S o
  | some r => Over n r ∧ r.Norm ∧ ∀ o, Told r o ↔ Ord n o ∧ TogS S o
def Fits (n : Nat) (S : List (List Int)) : Prop := ∃ o, Ord n o ∧ TogS S o
theorem TreeOk.fits {n : Nat} {S : List (List Int)} {r : Option Tr} (h : TreeOk n S r) : r.isSome = true ↔ Fits n S := by
  cases r with
  | none => exact ⟨nofun, fun ⟨o, h1, h2⟩ => absurd h2 (h o h1)⟩
  | some r => exact ⟨fun _ => ⟨r.leaves, (h.2.2 _).mp (told_self r)⟩, fun _ => rfl⟩
end PC
set_option Elab.async false
set_option linter.all false
set_option maxRecDepth 100000
namespace PC
open PySem
end PC
set_option Elab.async false
set_option linter.all false
set_option maxRecDepth 100000
namespace PC
open PySem
/-- what is left of the things -/
def kept (X o : List Int) : List Int := o.filter fun x => memB x X
theorem kept_append {X a b : List Int} : kept X (a ++ b) = kept X a ++ kept X b := List.filter_append ..
end PC
set_option Elab.async false
set_option linter.all false
set_option maxRecDepth 100000
namespace PC
open PySem
theorem ends_starts {C l : List Int} (h1 : EndsIn C l) (h2 : StartsIn C l) (h3 : Tch C l) : AllIn C l := by
  obtain ⟨c, m, hc⟩ := h3
  obtain ⟨a, b, rfl⟩ := List.append_of_mem m
  intro x hx
  rw [List.mem_append, List.mem_cons] at hx
  rcases hx with hx | rfl | hx
  · exact (List.pairwise_append.mp h2).2.2 x hx c List.mem_cons_self hc
  · exact hc
  · exact (List.pairwise_cons.mp (List.pairwise_append.mp h1).2.1).1 x hx hc
/-- always together -/
def Alw (t : Tr) (C : List Int) : Prop := ∀ o, Told t o → Tog C o
theorem arr_self {w : Bool} {ps : List Tr} : Arr w ps ps := by
  cases w
  · exact .inl rfl
  · exact List.Perm.refl _
theorem ts_self : ∀ L : List Tr, TS L (leavesL L) := fun L => by
  induction L with
  | nil => exact TS_nil.mpr rfl
  | cons p r ih => exact TS_cons.mpr ⟨_, _, told_self p, ih, leavesL_cons⟩
theorem told_put {w : Bool} {A B : List Tr} {p : Tr} {a : List Int} (h : Told p a) : Told (.node w (A ++ p :: B)) (leavesL A ++ (a ++ leavesL B)) :=
  told_node.mpr ⟨_, arr_self, TS_append.mpr ⟨_, _, ts_self A, TS_cons.mpr ⟨_, _, h, ts_self B, rfl⟩, rfl⟩⟩
theorem alw_part {w : Bool} {A B : List Tr} {p : Tr} {C : List Int} (hC : Alw (.node w (A ++ p :: B)) C) (h1 : Tch C p.leaves) (h2 : Tch C (leavesL A) ∨ Tch C (leavesL B)) : AllIn C p.leaves := by
  have T := fun a (h : Told p a) => tog_append.mp (hC _ (told_put (w := w) (A := A) (B := B) h))
  have T1 := T _ (told_self p)
  have T2 := T _ (told_self p).rev
  rcases h2 with h | h
  · have s1 : StartsIn C p.leaves := (List.pairwise_append.mp (T1.2.2.2 h)).1
    have s2 : StartsIn C p.leaves.reverse := (List.pairwise_append.mp (T2.2.2.2 h)).1
    have := s2.rev
    rw [List.reverse_reverse] at this
    exact ends_starts this s1 h1
  · have s1 : EndsIn C p.leaves := (tog_append.mp T1.2.1).2.2.1 h
    have s2 : EndsIn C p.leaves.reverse := (tog_append.mp T2.2.1).2.2.1 h
    have := s2.rev
    rw [List.reverse_reverse] at this
    exact ends_starts s1 this h1
theorem pull {ps : List Tr} {p : Tr} (h : p ∈ ps) : ∃ r, ps.Perm (p :: r) := by
  obtain ⟨a, b, rfl⟩ := List.append_of_mem h
  exact ⟨a ++ b, List.perm_middle⟩
theorem alw_any {ps : List Tr} {C : List Int} (hf : ∀ p ∈ ps, p.Form) (hC : Alw (.node true ps) C) {p q m : Tr} (hp : p ∈ ps) (hq : q ∈ ps) (hm : m ∈ ps) (hpq : p ≠ q) (h1 : Tch C p.leaves) (h2 : Tch C q.leaves) : Tch C m.leaves := by
  by_cases c1 : m = p
  · rw [c1]; exact h1
  by_cases c2 : m = q
  · rw [c2]; exact h2
  obtain ⟨r1, e1⟩ := pull hp
  have m2 : m ∈ r1 := (List.mem_cons.mp (e1.mem_iff.mp hm)).resolve_left c1
  obtain ⟨r2, e2⟩ := pull m2
  have m3 : q ∈ r2 := (List.mem_cons.mp (e2.mem_iff.mp ((List.mem_cons.mp (e1.mem_iff.mp hq)).resolve_left (fun e => hpq e.symm)))).resolve_left (fun e => c2 e.symm)
  obtain ⟨r3, e3⟩ := pull m3
  have e : (p :: m :: q :: r3).Perm ps := (e1.trans ((e2.trans (e3.cons m)).cons p)).symm
  have T := hC _ (told_node.mpr ⟨p :: m :: q :: r3, (show Arr true ps _ from e), ts_self _⟩)
  obtain ⟨x, hx, hxC⟩ := h1
  obtain ⟨z, hz, hzC⟩ := h2
  have hy := leaves_pos m (hf m hm)
  refine ⟨m.leaves[0], List.getElem_mem hy, T x m.leaves[0] z ?_ hxC hzC⟩
  simp only [leavesL_cons]
  refine sub3.mpr (.inr (.inr (.inl ⟨hx, ?_⟩)))
  refine List.cons_sublist_iff.mpr ⟨_, _, rfl, List.getElem_mem hy, ?_⟩
  rw [List.singleton_sublist]
  exact List.mem_append_left _ hz
/-- a part is always together -/
theorem alw_of_part {w : Bool} {qs : List Tr} {q : Tr} (hn : (leavesL qs).Nodup) (h : q ∈ qs) : Alw (.node w qs) q.leaves := by
  intro o ho
  obtain ⟨qs', h1, h2⟩ := told_node.mp ho
  have hp := h1.perm
  obtain ⟨A, B, rfl⟩ := List.append_of_mem (hp.mem_iff.mpr h)
  obtain ⟨a, b, h3, h4, rfl⟩ := TS_append.mp h2
  obtain ⟨c, d, h5, h6, rfl⟩ := TS_cons.mp h4
  have hn2 : (leavesL (A ++ q :: B)).Nodup := (perm_leavesL hp).nodup_iff.mpr hn
  rw [leavesL_append, leavesL_cons] at hn2
  obtain ⟨_, n2, n3⟩ := List.nodup_append.mp hn2
  obtain ⟨_, _, n4⟩ := List.nodup_append.mp n2
  rw [tog_free_left, tog_free_right]
  · exact AllIn.tog fun x m => h5.perm.mem_iff.mp m
  · exact fun x m hx => n4 x hx x (h6.perm.mem_iff.mp m) rfl
  · exact fun x m hx => n3 x (h3.perm.mem_iff.mp m) x (List.mem_append_left _ hx) rfl
theorem told_row {ps : List Tr} {o : List Int} : Told (.node false ps) o ↔ TS ps o ∨ TS ps o.reverse := by
  rw [told_node, ← TS_reverse]
  constructor
  · rintro ⟨qs, h1 | h1, h2⟩
    · subst h1; exact .inl h2
    · subst h1; exact .inr h2
  · rintro (h2 | h2)
    · exact ⟨ps, (show Arr false ps ps from .inl rfl), h2⟩
    · exact ⟨ps.reverse, (show Arr false ps _ from .inr rfl), h2⟩
theorem alw_pre {M N : List Tr} (hn : (leavesL (M ++ N)).Nodup) : Alw (.node false (M ++ N)) (leavesL M) := by
  have key : ∀ o, TS (M ++ N) o → Tog (leavesL M) o := fun o h => by
    obtain ⟨a, b, h1, h2, rfl⟩ := TS_append.mp h
    rw [leavesL_append] at hn
    rw [tog_free_right]
    · exact AllIn.tog fun x m => h1.perm.mem_iff.mp m
    · exact fun x m hx => (List.nodup_append.mp hn).2.2 x hx x (h2.perm.mem_iff.mp m) rfl
  intro o ho
  rcases told_row.mp ho with h | h
  · exact key o h
  · exact tog_rev.mp (key _ h)
theorem alw_suf {M N : List Tr} (hn : (leavesL (M ++ N)).Nodup) : Alw (.node false (M ++ N)) (leavesL N) := by
  have key : ∀ o, TS (M ++ N) o → Tog (leavesL N) o := fun o h => by
    obtain ⟨a, b, h1, h2, rfl⟩ := TS_append.mp h
    rw [leavesL_append] at hn
    rw [tog_free_left]
    · exact AllIn.tog fun x m => h2.perm.mem_iff.mp m
    · exact fun x m hx => (List.nodup_append.mp hn).2.2 x (h1.perm.mem_iff.mp m) x hx rfl
  intro o ho
  rcases told_row.mp ho with h | h
  · exact key o h
  · exact tog_rev.mp (key _ h)
theorem leavesL_empty {L : List Tr} (hf : ∀ p ∈ L, p.Form) (h : leavesL L = []) : L = [] := by
  cases L with
  | nil => rfl
  | cons p r =>
    rw [leavesL_cons] at h
    have := leaves_pos p (hf p List.mem_cons_self)
    rw [(List.append_eq_nil_iff.mp h).1] at this
    simp at this
theorem first_leaf {p : Tr} (h : p.Form) : ∃ x r, p.leaves = x :: r := by
  have := leaves_pos p h
  match p.leaves, this with
  | x :: r, _ => exact ⟨x, r, rfl⟩
/-- parts that begin alike end alike -/
theorem align_no {w v : Bool} {A1 R2 B1 R2' : List Tr} {p q : Tr} (hA : (Tr.node w (A1 ++ p :: R2)).Form) (hB : (Tr.node v (B1 ++ q :: R2')).Form) (hn : (leavesL (A1 ++ p :: R2)).Nodup)
    (ht : ∀ o, Told (.node w (A1 ++ p :: R2)) o ↔ Told (.node v (B1 ++ q :: R2')) o) (e1 : leavesL A1 = leavesL B1) (e2 : leavesL (p :: R2) = leavesL (q :: R2')) (hl : p.leaves.length < q.leaves.length) : False := by
  obtain ⟨a1, a2, a3⟩ := Form_node.mp hA
  obtain ⟨b1, b2, b3⟩ := Form_node.mp hB
  have fp := a3 p (by simp)
  have fq := b3 q (by simp)
  have el : leavesL (A1 ++ p :: R2) = leavesL (B1 ++ q :: R2') := by rw [leavesL_append, leavesL_append, e1, e2]
  have hnB := hn
  rw [el] at hnB
  have alwBA : ∀ {C}, Alw (.node v (B1 ++ q :: R2')) C → Alw (.node w (A1 ++ p :: R2)) C := fun h o ho => h o ((ht o).mp ho)
  have alwAB : ∀ {C}, Alw (.node w (A1 ++ p :: R2)) C → Alw (.node v (B1 ++ q :: R2')) C := fun h o ho => h o ((ht o).mpr ho)
  rw [leavesL_cons, leavesL_cons] at e2
  -- what q has beyond p
  have hs : ∃ s, q.leaves = p.leaves ++ s ∧ leavesL R2 = s ++ leavesL R2' := by
    refine ⟨q.leaves.drop p.leaves.length, ?_, ?_⟩
    · have := congrArg (List.take q.leaves.length) e2
      rw [List.take_left, List.take_append, List.take_of_length_le (by omega)] at this
      have h2 := congrArg (List.take p.leaves.length) e2
      rw [List.take_left, List.take_append_of_le_length (by omega)] at h2
      have h3 := List.take_append_drop p.leaves.length q.leaves
      rw [← h2] at h3
      exact h3.symm
    · have := congrArg (List.drop p.leaves.length) e2
      rw [List.drop_left, List.drop_append_of_le_length (by omega)] at this
      exact this
  obtain ⟨s, s1, s2⟩ := hs
  have sne : s ≠ [] := by
    rintro rfl
    rw [s1] at hl
    simp at hl
  obtain ⟨p2, R3, rfl⟩ : ∃ p2 R3, R2 = p2 :: R3 := by
    cases R2 with
    | nil =>
      have := congrArg List.length s2
      have := List.length_pos_iff.mpr sne
      simp [leavesL] at *
      omega
    | cons p2 R3 => exact ⟨p2, R3, rfl⟩
  obtain ⟨y, sr, rfl⟩ : ∃ y sr, s = y :: sr := by
    cases s with
    | nil => exact absurd rfl sne
    | cons y sr => exact ⟨y, sr, rfl⟩
  have fp2 := a3 p2 (by simp)
  have yp2 : y ∈ p2.leaves := by
    obtain ⟨x, r, e⟩ := first_leaf fp2
    rw [leavesL_cons, e] at s2
    simp only [List.cons_append, List.cons.injEq] at s2
    rw [e, s2.1]; exact List.mem_cons_self
  have yq : y ∈ q.leaves := by rw [s1]; simp
  obtain ⟨x, xr, ex⟩ := first_leaf fp
  have xp : x ∈ p.leaves := by rw [ex]; exact List.mem_cons_self
  have xq : x ∈ q.leaves := by rw [s1]; exact List.mem_append_left _ xp
  -- no thing in two places
  rw [leavesL_append, leavesL_cons] at hn
  obtain ⟨n1, n2, n3⟩ := List.nodup_append.mp hn
  obtain ⟨n4, n5, n6⟩ := List.nodup_append.mp n2
  have hnB2 := hnB
  rw [leavesL_append, leavesL_cons] at hnB2
  obtain ⟨o1, o2, o3⟩ := List.nodup_append.mp hnB2
  obtain ⟨o4, o5, o6⟩ := List.nodup_append.mp o2
  have yR : y ∈ leavesL (p2 :: R3) := by rw [leavesL_cons]; exact List.mem_append_left _ yp2
  have hQ : Alw (.node w (A1 ++ p :: p2 :: R3)) q.leaves := alwBA (alw_of_part hnB (by simp))
  cases w with
  | true =>
    have hall : ∀ m ∈ A1 ++ p :: p2 :: R3, Tch q.leaves m.leaves := fun m hm => alw_any a3 hQ (p := p) (q := p2) (by simp) (by simp) hm (fun e => by
      subst e
      exact n6 x xp x (by rw [leavesL_cons]; exact List.mem_append_left _ xp) rfl) ⟨x, xp, xq⟩ ⟨y, yp2, yq⟩
    have hin : ∀ m ∈ A1 ++ p :: p2 :: R3, AllIn q.leaves m.leaves := fun m hm => by
      obtain ⟨U, V, e⟩ := List.append_of_mem hm
      have hQ' := hQ
      rw [e] at hQ'
      refine alw_part hQ' (hall m hm) ?_
      have hlen := congrArg List.length e
      simp only [List.length_append, List.length_cons] at hlen
      cases U with
      | nil =>
        cases V with
        | nil => simp at hlen; omega
        | cons b V =>
          right
          obtain ⟨z, h1, h2⟩ := hall b (by rw [e]; simp)
          exact ⟨z, by rw [leavesL_cons]; exact List.mem_append_left _ h1, h2⟩
      | cons b U =>
        left
        obtain ⟨z, h1, h2⟩ := hall b (by rw [e]; simp)
        exact ⟨z, by rw [leavesL_cons]; exact List.mem_append_left _ h1, h2⟩
    have sub : ∀ z ∈ leavesL (B1 ++ q :: R2'), z ∈ q.leaves := fun z hz => by
      rw [← el] at hz
      obtain ⟨m, hm, hz⟩ := mem_leavesL.mp hz
      exact hin m hm z hz
    have eB : B1 = [] := leavesL_empty (fun p m => b3 p (by simp [m])) (by
      cases hB1 : leavesL B1 with
      | nil => rfl
      | cons z r =>
        have hz : z ∈ leavesL B1 := by rw [hB1]; exact List.mem_cons_self
        exact absurd rfl (o3 z hz z (List.mem_append_left _ (sub z (by rw [leavesL_append]; exact List.mem_append_left _ hz)))))
    have eR : R2' = [] := leavesL_empty (fun p m => b3 p (by simp [m])) (by
      cases hB1 : leavesL R2' with
      | nil => rfl
      | cons z r =>
        have hz : z ∈ leavesL R2' := by rw [hB1]; exact List.mem_cons_self
        exact absurd rfl (o6 z (sub z (by rw [leavesL_append, leavesL_cons]; exact List.mem_append_right _ (List.mem_append_right _ hz))) z hz))
    rw [eB, eR] at b1
    simp at b1
  | false =>
    by_cases c : A1 = []
    · subst c
      have eB : B1 = [] := leavesL_empty (fun p m => b3 p (by simp [m])) (by rw [← e1]; rfl)
      subst eB
      have hR : R2' ≠ [] := by
        rintro rfl
        simp at b1
      have hD : Alw (.node v ([] ++ q :: R2')) (leavesL (p2 :: R3)) := alwAB (alw_suf (M := [p]) (N := p2 :: R3) (by rw [List.singleton_append, leavesL_cons]; exact n2))
      obtain ⟨u, R4, rfl⟩ : ∃ u R4, R2' = u :: R4 := by
        cases R2' with
        | nil => exact absurd rfl hR
        | cons u R4 => exact ⟨u, R4, rfl⟩
      obtain ⟨z, zr, ez⟩ := first_leaf (b3 u (by simp))
      have zu : z ∈ leavesL (u :: R4) := by rw [leavesL_cons, ez]; simp
      have := alw_part hD ⟨y, yq, yR⟩ (.inr ⟨z, zu, by rw [s2]; exact List.mem_append_right _ zu⟩)
      exact n6 x xp x (this x xq) rfl
    · have hD : Alw (.node v (B1 ++ q :: R2')) (leavesL (A1 ++ [p])) := alwAB (by
        have := alw_pre (M := A1 ++ [p]) (N := p2 :: R3) (by rw [List.append_assoc, List.singleton_append, leavesL_append, leavesL_cons]; exact hn)
        rw [List.append_assoc, List.singleton_append] at this
        exact this)
      have xD : x ∈ leavesL (A1 ++ [p]) := by rw [leavesL_append, leavesL_cons]; exact List.mem_append_right _ (List.mem_append_left _ xp)
      obtain ⟨u, A4, rfl⟩ : ∃ u A4, A1 = u :: A4 := by
        cases A1 with
        | nil => exact absurd rfl c
        | cons u A4 => exact ⟨u, A4, rfl⟩
      obtain ⟨z, zr, ez⟩ := first_leaf (a3 u (by simp))
      have zu : z ∈ leavesL (u :: A4) := by rw [leavesL_cons, ez]; simp
      have := alw_part hD ⟨x, xq, xD⟩ (.inl ⟨z, by rw [← e1]; exact zu, by rw [leavesL_append]; exact List.mem_append_left _ zu⟩)
      have yD := this y yq
      rw [leavesL_append] at yD
      rcases List.mem_append.mp yD with h | h
      · exact n3 y h y (List.mem_append_right _ yR) rfl
      · have h : y ∈ p.leaves := by simpa [leavesL] using h
        exact n6 y h y yR rfl
theorem align {w v : Bool} : ∀ {R R' A1 B1 : List Tr}, (Tr.node w (A1 ++ R)).Form → (Tr.node v (B1 ++ R')).Form → (leavesL (A1 ++ R)).Nodup → (∀ o, Told (.node w (A1 ++ R)) o ↔ Told (.node v (B1 ++ R')) o) → leavesL A1 = leavesL B1 → leavesL R = leavesL R' → R.map Tr.leaves = R'.map Tr.leaves
  | [], R', A1, B1, hA, hB, _, _, _, e => by
    obtain ⟨b1, b2, b3⟩ := Form_node.mp hB
    have : R' = [] := leavesL_empty (fun p m => b3 p (by simp [m])) e.symm
    rw [this]
  | p :: R, [], A1, B1, hA, hB, _, _, _, e => by
    obtain ⟨b1, b2, b3⟩ := Form_node.mp hA
    have := leavesL_empty (fun q m => b3 q (List.mem_append_right _ m)) e
    cases this
  | p :: R, q :: R', A1, B1, hA, hB, hn, ht, e1, e2 => by
    have hnB : (leavesL (B1 ++ q :: R')).Nodup := by
      rw [leavesL_append, ← e1, ← e2, ← leavesL_append]; exact hn
    have hl : p.leaves.length = q.leaves.length := by
      rcases Nat.lt_trichotomy p.leaves.length q.leaves.length with h | h | h
      · exact (align_no hA hB hn ht e1 e2 h).elim
      · exact h
      · exact (align_no hB hA hnB (fun o => (ht o).symm) e1.symm e2.symm h).elim
    have e3 := e2
    rw [leavesL_cons, leavesL_cons] at e3
    obtain ⟨e4, e5⟩ := List.append_inj e3 hl
    have s1 : A1 ++ p :: R = (A1 ++ [p]) ++ R := by simp
    have s2 : B1 ++ q :: R' = (B1 ++ [q]) ++ R' := by simp
    rw [s1] at hA hn ht
    rw [s2] at hB ht
    have := align hA hB hn ht (by rw [leavesL_append, leavesL_append, e1, leavesL_cons, leavesL_cons, e4]) e5
    rw [List.map_cons, List.map_cons, e4, this]
/-- what a tree tells of a part -/
theorem told_of_part {v : Bool} {qs : List Tr} {q : Tr} {o : List Int} (hn : (leavesL qs).Nodup) (h : q ∈ qs) (ho : Told (.node v qs) o) : Told q (kept q.leaves o) := by
  obtain ⟨qs', h1, h2⟩ := told_node.mp ho
  have hp := h1.perm
  obtain ⟨A, B, rfl⟩ := List.append_of_mem (hp.mem_iff.mpr h)
  obtain ⟨a, b, h3, h4, rfl⟩ := TS_append.mp h2
  obtain ⟨c, d, h5, h6, rfl⟩ := TS_cons.mp h4
  have hn2 : (leavesL (A ++ q :: B)).Nodup := (perm_leavesL hp).nodup_iff.mpr hn
  rw [leavesL_append, leavesL_cons] at hn2
  obtain ⟨_, n2, n3⟩ := List.nodup_append.mp hn2
  obtain ⟨_, _, n4⟩ := List.nodup_append.mp n2
  have k1 : kept q.leaves a = [] := List.filter_eq_nil_iff.mpr fun x m => by
    rw [memB_eq, decide_eq_true_eq]
    exact fun hx => n3 x (h3.perm.mem_iff.mp m) x (List.mem_append_left _ hx) rfl
  have k2 : kept q.leaves d = [] := List.filter_eq_nil_iff.mpr fun x m => by
    rw [memB_eq, decide_eq_true_eq]
    exact fun hx => n4 x hx x (h6.perm.mem_iff.mp m) rfl
  have k3 : kept q.leaves c = c := List.filter_eq_self.mpr fun x m => by
    rw [memB_eq, decide_eq_true_eq]
    exact h5.perm.mem_iff.mp m
  rw [kept_append, kept_append, k1, k2, k3, List.nil_append, List.append_nil]
  exact h5
theorem told_part_of {w v : Bool} {ps qs : List Tr} {p q : Tr} {a : List Int} (hn : (leavesL ps).Nodup) (hn' : (leavesL qs).Nodup) (ht : ∀ o, Told (.node w ps) o ↔ Told (.node v qs) o) (hp : p ∈ ps) (hq : q ∈ qs) (e : p.leaves = q.leaves) (h : Told p a) : Told q a := by
  obtain ⟨A, B, rfl⟩ := List.append_of_mem hp
  have := told_of_part hn' hq ((ht _).mp (told_put (w := w) (A := A) (B := B) h))
  rw [leavesL_append, leavesL_cons] at hn
  obtain ⟨_, n2, n3⟩ := List.nodup_append.mp hn
  obtain ⟨_, _, n4⟩ := List.nodup_append.mp n2
  have k1 : kept q.leaves (leavesL A) = [] := List.filter_eq_nil_iff.mpr fun x m => by
    rw [memB_eq, decide_eq_true_eq, ← e]
    exact fun hx => n3 x m x (List.mem_append_left _ hx) rfl
  have k2 : kept q.leaves (leavesL B) = [] := List.filter_eq_nil_iff.mpr fun x m => by
    rw [memB_eq, decide_eq_true_eq, ← e]
    exact fun hx => n4 x hx x m rfl
  have k3 : kept q.leaves a = a := List.filter_eq_self.mpr fun x m => by
    rw [memB_eq, decide_eq_true_eq, ← e]
    exact h.perm.mem_iff.mp m
  rw [kept_append, kept_append, k1, k2, k3, List.nil_append, List.append_nil] at this
  exact this
theorem same_lists : ∀ {ps qs : List Tr}, ps.map Tr.leaves = qs.map Tr.leaves → (∀ p ∈ ps, ∀ q ∈ qs, p.leaves = q.leaves → Same p q) → SameL ps qs
  | [], [], _, _ => .nil
  | [], q :: r, e, _ => by simp at e
  | p :: r, [], e, _ => by simp at e
  | p :: r, q :: r', e, h => by
    simp only [List.map_cons, List.cons.injEq] at e
    exact .cons (h p List.mem_cons_self q List.mem_cons_self e.1) (same_lists e.2 fun a m b m' => h a (List.mem_cons_of_mem _ m) b (List.mem_cons_of_mem _ m'))
theorem word_eq {ps qs : List Tr} (hA : (Tr.node false ps).Form) (hB : (Tr.node true qs).Form) (hn : (leavesL ps).Nodup) (ht : ∀ o, Told (.node false ps) o ↔ Told (.node true qs) o) (e : ps.map Tr.leaves = qs.map Tr.leaves) : False := by
  obtain ⟨a1, a2, a3⟩ := Form_node.mp hA
  obtain ⟨b1, b2, b3⟩ := Form_node.mp hB
  have l3 := a2 rfl
  match ps, qs, l3, e with
  | p1 :: p2 :: p3 :: r, qs, _, e =>
    match qs, e with
    | q1 :: q2 :: q3 :: r', e =>
      simp only [List.map_cons, List.cons.injEq] at e
      have hD : Alw (.node true (q1 :: q2 :: q3 :: r')) (leavesL [p1, p2]) := fun o ho => (alw_pre (M := [p1, p2]) (N := p3 :: r) hn) o ((ht o).mpr ho)
      simp only [leavesL_cons] at hn
      obtain ⟨_, n2, n3⟩ := List.nodup_append.mp hn
      obtain ⟨_, n4, n5⟩ := List.nodup_append.mp n2
      obtain ⟨x, xr, ex⟩ := first_leaf (a3 p1 (by simp))
      obtain ⟨y, yr, ey⟩ := first_leaf (a3 p2 (by simp))
      have hx : x ∈ p1.leaves := by rw [ex]; simp
      have hy : y ∈ p2.leaves := by rw [ey]; simp
      obtain ⟨z, h1, h2⟩ := alw_any b3 hD (p := q1) (q := q2) (m := q3) (by simp) (by simp) (by simp) (fun c => by
        subst c
        rw [← e.1] at e
        exact n3 x hx x (List.mem_append_left _ (by rw [e.2.1]; exact hx)) rfl) ⟨x, by rw [← e.1]; exact hx, by simp [leavesL, hx]⟩ ⟨y, by rw [← e.2.1]; exact hy, by simp [leavesL, hy]⟩
      rw [← e.2.2.1] at h1
      simp only [leavesL_cons, List.mem_append] at h2
      rcases h2 with h | h | h
      · exact n3 z h z (List.mem_append_right _ (List.mem_append_left _ h1)) rfl
      · exact n5 z h z (List.mem_append_left _ h1) rfl
      · simp [leavesL] at h
    | [], e => simp at e
    | [a], e => simp at e
    | [a, b], e => simp at e
theorem uniq (A : Tr) : ∀ B : Tr, A.Form → B.Form → A.leaves.Nodup → (∀ o, Told A o ↔ Told B o) → Same A B := by
  induction A using Tr.ind with
  | hl i =>
    intro B hA hB hn ht
    obtain ⟨B', s, e⟩ := (ht [i]).mp (told_leaf.mpr rfl)
    have hd := dep_lt B' (s.form hB)
    rw [e] at hd
    cases B' with
    | leaf j =>
      rw [leaves_leaf] at e
      cases e
      exact s.symm
    | node w qs => simp [Tr.dep] at hd
  | hn w ps ih =>
    intro B hA hB hn ht
    obtain ⟨B', s, e⟩ := (ht _).mp (told_self _)
    have hB' := s.form hB
    have ht' : ∀ o, Told (.node w ps) o ↔ Told B' o := fun o => (ht o).trans (told_same s)
    refine Same.trans ?_ s.symm
    cases B' with
    | leaf j =>
      exfalso
      have hd := dep_lt _ hA
      rw [← e] at hd
      simp [Tr.dep, Tr.leaves] at hd
    | node v qs =>
      rw [leaves_node] at hn
      rw [leaves_node, leaves_node] at e
      have hn' : (leavesL qs).Nodup := by rw [e]; exact hn
      have al := align (A1 := []) (B1 := []) hA hB' hn ht' rfl e.symm
      have hwv : w = v := by
        cases w <;> cases v
        · rfl
        · exact (word_eq hA hB' hn ht' al).elim
        · exact (word_eq hB' hA hn' (fun o => (ht' o).symm) al.symm).elim
        · rfl
      subst hwv
      obtain ⟨a1, a2, a3⟩ := Form_node.mp hA
      obtain ⟨b1, b2, b3⟩ := Form_node.mp hB'
      refine Same.node arr_self (same_lists al fun p hp q hq epq => ih p hp q (a3 p hp) (b3 q hq) (nodup_part hp hn) fun o => ⟨fun h => ?_, fun h => ?_⟩)
      · exact told_part_of hn hn' ht' hp hq epq h
      · exact told_part_of hn' hn (fun o => (ht' o).symm) hq hp epq.symm h
theorem Over.uniq {n : Nat} {a b : Tr} (ha : Over n a) (hb : Over n b) : a.norm = b.norm ↔ ∀ o, Ord n o → (Told a o ↔ Told b o) := by
  rw [ha.norm_iff]
  constructor
  · exact fun s o _ => told_same s
  · exact fun h => PC.uniq a b ha.form hb.form ha.nodup fun o => ⟨fun q => (h o (q.perm.trans ha.perm)).mp q, fun q => (h o (q.perm.trans hb.perm)).mpr q⟩
end PC
set_option Elab.async false
set_option linter.all false
set_option maxRecDepth 100000
namespace PC
open PySem
theorem norm_of_Norm {t : Tr} : t.Norm → t.norm = t := by
  induction t using Tr.ind with
  | hl i => intro _; rfl
  | hn w ps ih =>
    intro h
    have key : NormL ps → normL ps = ps := fun h => by
      rw [normL_map]
      have : ∀ p ∈ ps, p.norm = p := fun p m => ih p m (NormL_iff.mp h p m)
      exact (List.map_congr_left this).trans (List.map_id' ps)
    cases w with
    | true =>
      simp only [Tr.Norm] at h
      simp only [Tr.norm, key h.1, sortT]
      rw [List.mergeSort_of_pairwise (h.2.imp fun q => by simpa [leT] using q)]
    | false =>
      simp only [Tr.Norm] at h
      simp only [Tr.norm, key h.1, flipT]
      split
      · rename_i a b ha hb
        have := h.2 a b ha hb
        rw [if_neg (by omega)]
      · rfl
theorem Over.norm_self {n : Nat} {t : Tr} (h : Over n t) (hN : t.Norm) : t.norm = t := norm_of_Norm hN
/-- two trees of tables that the same orders fit are alike -/
theorem TreeOk.uniq {n : Nat} {S S' : List (List Int)} {a b : Option Tr} (ha : TreeOk n S a) (hb : TreeOk n S' b) (h : ∀ o, Ord n o → (TogS S o ↔ TogS S' o)) : a = b := by
  have hf : Fits n S ↔ Fits n S' := ⟨fun ⟨o, h1, h2⟩ => ⟨o, h1, (h o h1).mp h2⟩, fun ⟨o, h1, h2⟩ => ⟨o, h1, (h o h1).mpr h2⟩⟩
  cases a with
  | none =>
    cases b with
    | none => rfl
    | some b => exact absurd (ha.fits.mpr (hf.mpr (hb.fits.mp rfl))) (by simp)
  | some a =>
    cases b with
    | none => exact absurd (hb.fits.mpr (hf.mp (ha.fits.mp rfl))) (by simp)
    | some b =>
      have := (ha.1.uniq hb.1).mpr fun o ho => by rw [ha.2.2 o, hb.2.2 o, h o ho]
      rw [ha.1.norm_self ha.2.1, hb.1.norm_self hb.2.1] at this
      rw [this]
theorem TreeOk.dep {n : Nat} {S : List (List Int)} {a : Option Tr} (ha : TreeOk n S a) (hn : n ≤ 24) : ∀ t, a = some t → t.dep ≤ 31 := by
  rintro t rfl
  have := ha.1.dep
  omega
end PC
set_option Elab.async false
set_option linter.all false
set_option maxRecDepth 100000
namespace PC
open PySem
theorem Ord.nodup {n : Nat} {o : List Int} (h : Ord n o) : o.Nodup := h.nodup_iff.mpr (iota_nodup n 0)
theorem VSet.sub {n : Nat} {C o : List Int} (h : VSet n C) (ho : Ord n o) : ∀ x ∈ C, x ∈ o := fun x m => ho.mem_iff.mpr (iota_mem.mpr (by have := h.2 x m; omega))
theorem VSet.nodup {n : Nat} {C : List Int} (h : VSet n C) : C.Nodup := sort_nodup h.1
end PC
set_option Elab.async false
set_option linter.all false
set_option maxRecDepth 100000
namespace PC
namespace Tk
/-- a family of sets -/
abbrev Fam := (Int → Prop) → Prop
/-- joined within V by sets without c -/
inductive Jn (V : Int → Prop) (H : Fam) (c x : Int) : Int → Prop
  | refl : Jn V H c x x
  | step {y z : Int} {P : Int → Prop} : Jn V H c x y → H P → ¬ P c → P y → P z → V z → Jn V H c x z
section
variable {V : Int → Prop} {H : Fam} {a b c x y z : Int} {P : Int → Prop}
theorem Jn.one (h : H P) (hc : ¬ P c) (hx : P x) (hy : P y) (hv : V y) : Jn V H c x y := .step .refl h hc hx hy hv
theorem Jn.trans (h : Jn V H c x y) (g : Jn V H c y z) : Jn V H c x z := by
  induction g with
  | refl => exact h
  | step _ hp hc hy hz hv ih => exact .step ih hp hc hy hz hv
theorem Jn.symm (hx : V x) (h : Jn V H c x y) : Jn V H c y x := by
  have key : V y ∧ Jn V H c y x := by
    induction h with
    | refl => exact ⟨hx, .refl⟩
    | step _ hp hc hy hz hv ih => exact ⟨hv, (Jn.one hp hc hz hy ih.1).trans ih.2⟩
  exact key.2
theorem Jn.ne (h : Jn V H c x y) (hx : x ≠ c) : y ≠ c := by
  cases h with
  | refl => exact hx
  | step _ _ hc _ hz _ => exact fun e => hc (e ▸ hz)
/-- what is joined without c, b not among it, is joined without b -/
theorem Jn.swap (h : Jn V H c x y) (hb : V b) (n : ¬ Jn V H c x b) (hxb : x ≠ b) : Jn V H b x y := by
  induction h with
  | refl => exact .refl
  | step h1 hp hc hy hz hv ih => exact .step ih hp (fun q => n (.step h1 hp hc hy q hb)) hy hz hv
/-- three that are joined pairwise -/
def Three (V : Int → Prop) (H : Fam) (a b c : Int) : Prop := V a ∧ V b ∧ V c ∧ a ≠ b ∧ a ≠ c ∧ b ≠ c ∧ Jn V H c a b ∧ Jn V H b a c ∧ Jn V H a b c
def Free (V : Int → Prop) (H : Fam) : Prop := ∀ a b c, ¬ Three V H a b c
/-- the set stands together in the list -/
def TogP (P : Int → Prop) (o : List Int) : Prop := ∀ x y z, [x, y, z].Sublist o → P x → P z → P y
/-- more of V, other sets -/
theorem Jn.map {V' : Int → Prop} {H' : Fam} (hv : ∀ x, V x → V' x) (hs : ∀ P, H P → ¬ P c → ∀ y z, P y → P z → V z → Jn V' H' c y z) (h : Jn V H c x y) : Jn V' H' c x y := by
  induction h with
  | refl => exact .refl
  | step _ hp hc hy hz hv' ih => exact ih.trans (hs _ hp hc _ _ hy hz hv')
end
section
variable {V : Int → Prop} {H : Fam} {s : Int}
/-- all others are joined without s -/
def NoCut (V : Int → Prop) (H : Fam) (s : Int) : Prop := V s ∧ ∀ x y, V x → V y → x ≠ s → y ≠ s → Jn V H s x y
/-- later than v: outside of a set with s and v -/
def Up (V : Int → Prop) (H : Fam) (s v x : Int) : Prop := V x ∧ ∃ S, H S ∧ S s ∧ S v ∧ ¬ S x
theorem Up.ne {v x : Int} (h : Up V H s v x) : x ≠ v ∧ x ≠ s := by
  obtain ⟨_, S, _, h1, h2, h3⟩ := h
  exact ⟨fun e => h3 (e ▸ h2), fun e => h3 (e ▸ h1)⟩
theorem Up.neg {v w : Int} (a : Up V H s v w) {x : Int} (vx : V x) : Up V H s v x ∨ Up V H s x w := by
  obtain ⟨vw, S, hS, s1, s2, s3⟩ := a
  by_cases c : S x
  · exact .inr ⟨vw, S, hS, s1, c, s3⟩
  · exact .inl ⟨vx, S, hS, s1, s2, c⟩
/-- of two that are on a par not both reach what is later, each without the other -/
theorem Up.par (h : NoCut V H s) (F : Free V H) {a c : Int} (va : V a) (vc : V c) (na : a ≠ s) (nc : c ≠ s) (hac : a ≠ c) (p1 : ¬ Up V H s a c) (p2 : ¬ Up V H s c a) {x x' : Int} (ux : Up V H s a x) (ux' : Up V H s c x') (j : Jn V H a c x) (j' : Jn V H c a x') : False := by
  have nx := ux.ne
  have nx' := ux'.ne
  obtain ⟨vx, S, hS, s1, s2, s3⟩ := ux
  obtain ⟨vx', T, hT, t1, t2, t3⟩ := ux'
  have sc : S c := Classical.byContradiction fun q => p1 ⟨vc, S, hS, s1, s2, q⟩
  have ta : T a := Classical.byContradiction fun q => p2 ⟨va, T, hT, t1, t2, q⟩
  have ncx : c ≠ x := fun e => s3 (e ▸ sc)
  have nax' : a ≠ x' := fun e => t3 (e ▸ ta)
  have k1 : ¬ Jn V H c a x := fun q => F a c x ⟨va, vc, vx, hac, nx.1.symm, ncx, .one hS s3 s2 sc vc, q, j⟩
  have k2 : ¬ Jn V H a c x' := fun q => F a c x' ⟨va, vc, vx', hac, nax', nx'.1.symm, .one hT t3 ta t2 vc, j', q⟩
  have nxx : x ≠ x' := fun e => k1 (e ▸ j')
  refine F s x x' ⟨h.1, vx, vx', nx.2.symm, nx'.2.symm, nxx, ?_, ?_, h.2 x x' vx vx' nx.2 nx'.2⟩
  · exact (Jn.one hT t3 t1 t2 vc).trans (j.swap vx' k2 nx'.1.symm)
  · exact (Jn.one hS s3 s1 s2 va).trans (j'.swap vx k1 nx.1.symm)
end
end Tk
end PC
set_option Elab.async false
set_option linter.all false
set_option maxRecDepth 100000
namespace PC
namespace Tk
section
variable {H : Fam} {V : List Int}
theorem Free.sub {V V' : Int → Prop} {H : Fam} (F : Free V H) (h : ∀ x, V' x → V x) : Free V' H := fun a b c ⟨va, vb, vc, h1, h2, h3, j1, j2, j3⟩ =>
  have mp : ∀ {c x y}, Jn V' H c x y → Jn V H c x y := fun j => j.map h fun P hp hc y z hy hz hv => .one hp hc hy hz (h _ hv)
  F a b c ⟨h a va, h b vb, h c vc, h1, h2, h3, mp j1, mp j2, mp j3⟩
theorem tog_rev {P : Int → Prop} {o : List Int} (h : TogP P o) : TogP P o.reverse := fun x y z s hx hz => by
  have s : [z, y, x].Sublist o := by
    have := s.reverse
    simpa using this
  exact h z y x s hz hx
end
end Tk
end PC
set_option Elab.async false
set_option linter.all false
set_option maxRecDepth 100000
namespace PC
open PySem
def sg (S : List (List Int)) (i : Int) : List Int := S.getD i.toNat []
def Shr (x y : List Int) : Prop := ∃ t, t ∈ x ∧ t ∈ y
def AdjS (S : List (List Int)) (ch : List Int) : Prop := ∀ i : Nat, i + 1 < ch.length → Shr (sg S (ch.getD i 0)) (sg S (ch.getD (i + 1) 0))
structure IsCh (S : List (List Int)) (ch : List Int) (a b c : Int) : Prop where
  rng : ∀ i ∈ ch, 0 ≤ i ∧ i < S.length
  ne : ch ≠ []
  hd : a ∈ sg S (ch.getD 0 0)
  lt : b ∈ sg S (ch.getD (ch.length - 1) 0)
  av : ∀ i ∈ ch, c ∉ sg S i
  adj : AdjS S ch
theorem getD_mem {l : List Int} {i : Nat} (h : i < l.length) : l.getD i 0 ∈ l := by
  rw [List.getD_eq_getElem?_getD, List.getElem?_eq_getElem h]
  exact List.getElem_mem h
open Tk
/-- the sets of a list -/
def fam (S : List (List Int)) : Fam := fun P => ∃ C ∈ S, P = fun x => x ∈ C
def famI (S : List (List Int)) (ch : List Int) : Fam := fun P => ∃ i ∈ ch, P = fun x => x ∈ sg S i
theorem sg_mem {S : List (List Int)} {i : Int} (h0 : 0 ≤ i) (h : i < S.length) : sg S i ∈ S := by
  unfold sg
  rw [List.getD_eq_getElem?_getD, List.getElem?_eq_getElem (by omega)]
  exact List.getElem_mem _
theorem IsCh.join {S : List (List Int)} {ch : List Int} {a b c : Int} {V : Int → Prop} (h : IsCh S ch a b c) (hV : ∀ C ∈ S, ∀ x ∈ C, V x) : Jn V (famI S ch) c a b := by
  have key : ∀ i : Nat, i < ch.length → ∀ x ∈ sg S (ch.getD i 0), Jn V (famI S ch) c a x := by
    intro i
    induction i with
    | zero =>
      intro hi x m
      have mm := getD_mem hi
      exact .one ⟨_, mm, rfl⟩ (h.av _ mm) h.hd m (hV _ (sg_mem (h.rng _ mm).1 (h.rng _ mm).2) x m)
    | succ i ih =>
      intro hi x m
      obtain ⟨t, t1, t2⟩ := h.adj i hi
      have mm := getD_mem hi
      exact .step (ih (by omega) t t1) ⟨_, mm, rfl⟩ (h.av _ mm) t2 m (hV _ (sg_mem (h.rng _ mm).1 (h.rng _ mm).2) x m)
  have hpos : 0 < ch.length := List.length_pos_iff.mpr h.ne
  exact key _ (by omega) b h.lt
end PC
set_option Elab.async false
set_option linter.all false
set_option maxRecDepth 100000
namespace PC
open PySem Tk
section
variable {S : List (List Int)} {a b c : Int} {n : Nat}
def lastD (ch : List Int) : Int := ch.getD (ch.length - 1) 0
/-- the indexes of sets without the third thing -/
def usable (S : List (List Int)) (c : Int) : List Int := (iota 0 S.length).filter fun i => !decide (c ∈ sg S i)
theorem usable_mem {i : Int} : i ∈ usable S c ↔ 0 ≤ i ∧ i < S.length ∧ c ∉ sg S i := by
  unfold usable
  rw [List.mem_filter, iota_mem]
  simp only [Bool.not_eq_true', decide_eq_false_iff_not]
  constructor
  · rintro ⟨h1, h2⟩; exact ⟨h1.1, by omega, h2⟩
  · rintro ⟨h1, h2, h3⟩; exact ⟨⟨h1, by omega⟩, h3⟩
/-- a chain that has come so far -/
structure Part (S : List (List Int)) (a c : Int) (ch : List Int) : Prop where
  us : ∀ i ∈ ch, i ∈ usable S c
  ne : ch ≠ []
  hd : a ∈ sg S (ch.getD 0 0)
  adj : AdjS S ch
theorem Part.last {ch : List Int} (h : Part S a c ch) : lastD ch ∈ usable S c := h.us _ (getD_mem (by have := List.length_pos_iff.mpr h.ne; omega))
theorem lastD_snoc (ch : List Int) (i : Int) : lastD (ch ++ [i]) = i := by
  unfold lastD
  simp
theorem Part.snoc {ch : List Int} {i : Int} (h : Part S a c ch) (hi : i ∈ usable S c) (hs : Shr (sg S (lastD ch)) (sg S i)) : Part S a c (ch ++ [i]) := by
  have hpos := List.length_pos_iff.mpr h.ne
  refine ⟨fun j m => ?_, by simp, ?_, fun j hj => ?_⟩
  · rcases List.mem_append.mp m with m | m
    · exact h.us j m
    · rw [List.mem_singleton.mp m]; exact hi
  · have : (ch ++ [i]).getD 0 0 = ch.getD 0 0 := by
      rw [List.getD_eq_getElem?_getD, List.getElem?_append_left hpos, ← List.getD_eq_getElem?_getD]
    rw [this]; exact h.hd
  · rw [List.length_append, List.length_singleton] at hj
    have e1 : (ch ++ [i]).getD j 0 = ch.getD j 0 := by
      rw [List.getD_eq_getElem?_getD, List.getElem?_append_left (by omega), ← List.getD_eq_getElem?_getD]
    rw [e1]
    by_cases q : j + 1 < ch.length
    · have e2 : (ch ++ [i]).getD (j + 1) 0 = ch.getD (j + 1) 0 := by
        rw [List.getD_eq_getElem?_getD, List.getElem?_append_left (by omega), ← List.getD_eq_getElem?_getD]
      rw [e2]; exact h.adj j q
    · have ej : j = ch.length - 1 := by omega
      have e2 : (ch ++ [i]).getD (j + 1) 0 = i := by
        rw [ej, List.getD_eq_getElem?_getD, List.getElem?_append_right (by omega)]
        have : ch.length - 1 + 1 - ch.length = 0 := by omega
        rw [this]; rfl
      rw [e2, ej]; exact hs
/-- where the search stands -/
structure Sch (S : List (List Int)) (a b c : Int) (s : List Int × List (List Int) × List (Int × Bool) × Int) : Prop where
  u : s.1 = usable S c
  ok : ∀ ch ∈ s.2.1, Part S a c ch
  nd : (s.2.1.map lastD).Nodup
  sz : ∀ ch ∈ s.2.1, ch.length ≤ s.2.1.length
  seen : s.2.2.1.map Prod.fst = s.2.1.map lastD
  st : ∀ i ∈ usable S c, a ∈ sg S i → i ∈ s.2.1.map lastD
  at0 : 0 ≤ s.2.2.2
  at1 : s.2.2.2 ≤ s.2.1.length
  don : ∀ j : Nat, (j : Int) < s.2.2.2 → ∀ ch, s.2.1[j]? = some ch → b ∉ sg S (lastD ch) ∧ ∀ i ∈ usable S c, Shr (sg S (lastD ch)) (sg S i) → i ∈ s.2.1.map lastD
theorem Sch.len {s : List Int × List (List Int) × List (Int × Bool) × Int} (h : Sch S a b c s) : s.2.1.length ≤ S.length := by
  have h1 := len_of_sub h.nd (b := iota 0 S.length) fun x m => by
    obtain ⟨ch, mc, rfl⟩ := List.mem_map.mp m
    have := usable_mem.mp (h.ok ch mc).last
    exact iota_mem.mpr (by omega)
  rwa [List.length_map, iota_len] at h1
/-- what is found is closed -/
theorem Sch.done {s : List Int × List (List Int) × List (Int × Bool) × Int} (h : Sch S a b c s) (e : s.2.2.2 = s.2.1.length) (hab : a ≠ b) {V : Int → Prop} : ¬ Jn V (fam S) c a b := by
  intro j
  have key : b = a ∨ ∃ i ∈ s.2.1.map lastD, b ∈ sg S i := by
    have : ∀ {y}, Jn V (fam S) c a y → y = a ∨ ∃ i ∈ s.2.1.map lastD, y ∈ sg S i := by
      intro y j
      induction j with
      | refl => exact .inl rfl
      | @step y z P h1 hp hc hy hz hv ih =>
        obtain ⟨C, mC, rfl⟩ := hp
        obtain ⟨i, hi, eC⟩ := List.getElem_of_mem mC
        have es : sg S (i : Int) = C := by
          unfold sg
          rw [Int.toNat_natCast, List.getD_eq_getElem?_getD, List.getElem?_eq_getElem hi]
          exact eC
        have mu : (i : Int) ∈ usable S c := usable_mem.mpr ⟨by omega, by omega, by rw [es]; exact hc⟩
        refine .inr ⟨i, ?_, by rw [es]; exact hz⟩
        rcases ih with rfl | ⟨i', m', y'⟩
        · exact h.st _ mu (by rw [es]; exact hy)
        · obtain ⟨ch, mch, rfl⟩ := List.mem_map.mp m'
          obtain ⟨k, hk, ek⟩ := List.getElem_of_mem mch
          exact (h.don k (by omega) ch (by rw [List.getElem?_eq_getElem hk, ek])).2 _ mu ⟨y, y', by rw [es]; exact hy⟩
    exact this j
  rcases key with q | ⟨i, m, q⟩
  · exact hab q.symm
  · obtain ⟨ch, mch, rfl⟩ := List.mem_map.mp m
    obtain ⟨k, hk, ek⟩ := List.getElem_of_mem mch
    exact (h.don k (by omega) ch (by rw [List.getElem?_eq_getElem hk, ek])).1 q
end
end PC
set_option Elab.async false
set_option linter.all false
set_option maxRecDepth 100000
namespace PC
open PySem Tk
end PC
set_option Elab.async false
set_option linter.all false
set_option maxRecDepth 100000
namespace PC
open PySem
theorem tog_sub {o o' C : List Int} (h : Tog C o) (s : o'.Sublist o) : Tog C o' := fun x y z q => h x y z (q.trans s)
/-- some order of things fits some sets -/
def FitT (S : List (List Int)) (th ix : List Int) : Prop := ∃ o, o.Perm th ∧ ∀ i ∈ ix, Tog (sg S i) o
theorem FitT.ix {S : List (List Int)} {th ix ix' : List Int} (h : FitT S th ix) (s : ∀ i ∈ ix', i ∈ ix) : FitT S th ix' := let ⟨o, p, f⟩ := h; ⟨o, p, fun i m => f i (s i m)⟩
theorem FitT.th {S : List (List Int)} {th th' ix : List Int} (h : FitT S th ix) (s : th'.Sublist th) (n : th.Nodup) : FitT S th' ix := by
  obtain ⟨o, p, f⟩ := h
  have no := p.nodup_iff.mpr n
  refine ⟨o.filter fun x => decide (x ∈ th'), ?_, fun i m => tog_sub (f i m) List.filter_sublist⟩
  refine perm_of_iff (no.sublist List.filter_sublist) (n.sublist s) fun x => ?_
  rw [List.mem_filter]
  simp only [decide_eq_true_eq]
  exact ⟨fun h => h.2, fun h => ⟨p.mem_iff.mpr (s.subset h), h⟩⟩
end PC
set_option Elab.async false
set_option linter.all false
set_option maxRecDepth 100000
namespace PC
open PySem
section
variable {S : List (List Int)} {th ix : List Int} {n k : Nat}
theorem VSet.erase (h : VSet n th) (j : Nat) : VSet n (th.eraseIdx j) := ⟨h.1.sublist (List.eraseIdx_sublist _ _), fun x m => h.2 x ((List.eraseIdx_sublist _ _).subset m)⟩
theorem FitT.th' {S : List (List Int)} {th th' ix : List Int} (h : FitT S th ix) (s : th'.Sublist th) : FitT S th' ix := by
  obtain ⟨o, p, f⟩ := h
  obtain ⟨o', p', s'⟩ := List.exists_perm_sublist s p.symm
  exact ⟨o', p', fun i m => tog_sub (f i m) s'⟩
end
end PC
set_option Elab.async false
set_option linter.all false
set_option maxRecDepth 100000
namespace PC
open PySem
/-- there are m of them -/
def Cnt {α : Type} (P : α → Prop) (m : Nat) : Prop := ∃ L : List α, L.Nodup ∧ (∀ o, o ∈ L ↔ P o) ∧ L.length = m
open Classical in
theorem len_sub {α : Type} : ∀ {a b : List α}, a.Nodup → (∀ x ∈ a, x ∈ b) → a.length ≤ b.length
  | [], b, _, _ => by simp
  | x :: a, b, hn, hs => by
    have m := hs x List.mem_cons_self
    obtain ⟨n1, n2⟩ := List.nodup_cons.mp hn
    have := len_sub n2 (b := b.erase x) fun y hy => (List.mem_erase_of_ne (by rintro rfl; exact n1 hy)).mpr (hs y (List.mem_cons_of_mem _ hy))
    rw [List.length_erase_of_mem m] at this
    have := List.length_pos_of_mem m
    simp
    omega
theorem Cnt.le {α : Type} {P Q : α → Prop} {m m' : Nat} (h : Cnt P m) (h' : Cnt Q m') (s : ∀ o, P o → Q o) : m ≤ m' := by
  obtain ⟨L, n, e, rfl⟩ := h
  obtain ⟨L', n', e', rfl⟩ := h'
  exact len_sub n fun x hx => (e' x).mpr (s x ((e x).mp hx))
theorem Cnt.uniq {α : Type} {P : α → Prop} {m m' : Nat} (h : Cnt P m) (h' : Cnt P m') : m = m' := Nat.le_antisymm (h.le h' fun _ q => q) (h'.le h fun _ q => q)
theorem Cnt.congr {α : Type} {P Q : α → Prop} {m : Nat} (h : Cnt P m) (s : ∀ o, P o ↔ Q o) : Cnt Q m := by
  obtain ⟨L, n, e, rfl⟩ := h
  exact ⟨L, n, fun o => (e o).trans (s o), rfl⟩
theorem Cnt.or {α : Type} {P Q : α → Prop} {m m' : Nat} (h : Cnt P m) (h' : Cnt Q m') (d : ∀ o, P o → Q o → False) : Cnt (fun o => P o ∨ Q o) (m + m') := by
  obtain ⟨L, n, e, rfl⟩ := h
  obtain ⟨L', n', e', rfl⟩ := h'
  refine ⟨L ++ L', ?_, fun o => by rw [List.mem_append, e, e'], List.length_append⟩
  rw [List.nodup_append]
  refine ⟨n, n', fun a ha b hb q => ?_⟩
  subst q
  exact d a ((e a).mp ha) ((e' a).mp hb)
theorem Cnt.map {α β : Type} {P : α → Prop} {Q : β → Prop} {m : Nat} (h : Cnt P m) (g : α → β) (inj : ∀ a b, P a → P b → g a = g b → a = b) (s : ∀ o, Q o ↔ ∃ a, P a ∧ g a = o) : Cnt Q m := by
  obtain ⟨L, n, e, rfl⟩ := h
  refine ⟨L.map g, ?_, fun o => ?_, List.length_map ..⟩
  · show (L.map g).Pairwise (· ≠ ·)
    rw [List.pairwise_map]
    exact List.Pairwise.imp_of_mem (fun {a b} ha hb hab q => hab (inj a b ((e a).mp ha) ((e b).mp hb) q)) n
  · rw [List.mem_map, s]
    exact ⟨fun ⟨a, h1, h2⟩ => ⟨a, (e a).mp h1, h2⟩, fun ⟨a, h1, h2⟩ => ⟨a, (e a).mpr h1, h2⟩⟩
theorem Cnt.none {α : Type} {P : α → Prop} (h : ∀ o, ¬ P o) : Cnt P 0 := ⟨[], List.nodup_nil, fun o => ⟨nofun, fun q => absurd q (h o)⟩, rfl⟩
theorem Cnt.one {α : Type} {P : α → Prop} {a : α} (h : ∀ o, P o ↔ o = a) : Cnt P 1 := ⟨[a], by simp, fun o => by rw [List.mem_singleton, h], rfl⟩
theorem Cnt.prod {P Q : List Int → Prop} {m m' l : Nat} (h : Cnt P m) (h' : Cnt Q m') (hl : ∀ a, P a → a.length = l) : Cnt (fun o => ∃ a b, P a ∧ Q b ∧ o = a ++ b) (m * m') := by
  obtain ⟨L, n, e, rfl⟩ := h
  obtain ⟨L', n', e', rfl⟩ := h'
  refine ⟨L.flatMap fun a => L'.map fun b => a ++ b, ?_, fun o => ?_, ?_⟩
  · show List.Pairwise (· ≠ ·) _
    rw [List.pairwise_flatMap]
    refine ⟨fun a ha => ?_, List.Pairwise.imp_of_mem (fun {a b} ha hb hab x hx y hy q => ?_) n⟩
    · rw [List.pairwise_map]
      exact n'.imp fun h q => h (List.append_cancel_left q)
    · obtain ⟨u, _, rfl⟩ := List.mem_map.mp hx
      obtain ⟨v, _, rfl⟩ := List.mem_map.mp hy
      exact hab (List.append_inj_left q (by rw [hl a ((e a).mp ha), hl b ((e b).mp hb)]))
  · rw [List.mem_flatMap]
    constructor
    · rintro ⟨a, ha, hb⟩
      obtain ⟨b, hb2, rfl⟩ := List.mem_map.mp hb
      exact ⟨a, b, (e a).mp ha, (e' b).mp hb2, rfl⟩
    · rintro ⟨a, b, ha, hb, rfl⟩
      exact ⟨a, (e a).mpr ha, List.mem_map.mpr ⟨b, (e' b).mpr hb, rfl⟩⟩
  · clear n e hl
    induction L with
    | nil => simp
    | cons a L ih => rw [List.flatMap_cons, List.length_append, ih, List.length_map, List.length_cons, Nat.add_mul, Nat.one_mul, Nat.add_comm]
theorem Cnt.sum {α : Type} {P : Nat → α → Prop} {m : Nat} : ∀ {n : Nat}, (∀ i, i < n → Cnt (P i) m) → (∀ i j o, i < n → j < n → P i o → P j o → i = j) → Cnt (fun o => ∃ i, i < n ∧ P i o) (n * m)
  | 0, _, _ => by
    rw [Nat.zero_mul]
    exact Cnt.none fun o ⟨i, h, _⟩ => by omega
  | n + 1, h, d => by
    have a := Cnt.sum (n := n) (fun i hi => h i (by omega)) fun i j o hi hj => d i j o (by omega) (by omega)
    have b := a.or (h n (by omega)) fun o ⟨i, hi, p⟩ q => by
      have := d i n o (by omega) (by omega) p q
      omega
    rw [Nat.add_mul, Nat.one_mul]
    refine b.congr fun o => ⟨?_, ?_⟩
    · rintro (⟨i, hi, p⟩ | p)
      · exact ⟨i, by omega, p⟩
      · exact ⟨n, by omega, p⟩
    · rintro ⟨i, hi, p⟩
      by_cases c : i = n
      · subst c; exact .inr p
      · exact .inl ⟨i, by omega, p⟩
def fct : Nat → Nat
  | 0 => 1
  | n + 1 => (n + 1) * fct n
mutual
def cnt : Tr → Nat
  | .leaf _ => 1
  | .node w ps => (if w then fct ps.length else 2) * cntL ps
def cntL : List Tr → Nat
  | [] => 1
  | t :: r => cnt t * cntL r
end
@[simp] theorem cntL_nil : cntL [] = 1 := by simp [cntL]
@[simp] theorem cntL_cons {t : Tr} {r : List Tr} : cntL (t :: r) = cnt t * cntL r := by simp [cntL]
@[simp] theorem cnt_leaf {i : Int} : cnt (.leaf i) = 1 := by simp [cnt]
theorem cntL_perm {a b : List Tr} (h : a.Perm b) : cntL a = cntL b := by
  induction h with
  | nil => rfl
  | cons x _ ih => rw [cntL_cons, cntL_cons, ih]
  | swap x y l => simp only [cntL_cons]; rw [← Nat.mul_assoc, ← Nat.mul_assoc, Nat.mul_comm (cnt y)]
  | trans _ _ h1 h2 => exact h1.trans h2
theorem get_erase_perm {α : Type} : ∀ {l : List α} {i : Nat} (h : i < l.length), (l[i] :: l.eraseIdx i).Perm l
  | a :: l, 0, _ => .refl _
  | a :: l, i + 1, h => by
    rw [List.eraseIdx_cons_succ, List.getElem_cons_succ]
    exact (List.Perm.swap a _ _).trans ((get_erase_perm (l := l) (i := i) (by simpa using h)).cons a)
theorem any_cnt : ∀ {m : Nat} {ps : List Tr}, ps.length = m → (leavesL ps).Nodup → (∀ p ∈ ps, 0 < p.leaves.length) → (∀ p ∈ ps, Cnt (Told p) (cnt p)) → Cnt (fun o => ∃ qs, qs.Perm ps ∧ TS qs o) (fct m * cntL ps)
  | 0, ps, hm, _, _, _ => by
    have : ps = [] := List.eq_nil_of_length_eq_zero hm
    subst this
    refine Cnt.one (a := []) fun o => ⟨?_, ?_⟩
    · rintro ⟨qs, h1, h2⟩
      rw [List.perm_nil] at h1
      subst h1
      exact TS_nil.mp h2
    · rintro rfl
      exact ⟨[], .refl _, TS_nil.mpr rfl⟩
  | m + 1, ps, hm, hn, hp, hc => by
    have pe : ∀ i (h : i < ps.length), (ps[i] :: ps.eraseIdx i).Perm ps := fun i h => get_erase_perm h
    have key := Cnt.sum (n := m + 1) (m := fct m * cntL ps) (P := fun i o => ∃ p, ps[i]? = some p ∧ ∃ a b, Told p a ∧ (∃ qs, qs.Perm (ps.eraseIdx i) ∧ TS qs b) ∧ o = a ++ b) (fun i hi => ?_) (fun i j o hi hj h1 h2 => ?_)
    · have e : fct (m + 1) * cntL ps = (m + 1) * (fct m * cntL ps) := by rw [fct, Nat.mul_assoc]
      rw [e]
      refine key.congr fun o => ⟨?_, ?_⟩
      · rintro ⟨i, hi, p, hp1, a, b, ha, ⟨qs, q1, q2⟩, rfl⟩
        obtain ⟨hi', rfl⟩ := List.getElem?_eq_some_iff.mp hp1
        exact ⟨ps[i] :: qs, (q1.cons _).trans (pe i hi'), TS_cons.mpr ⟨a, b, ha, q2, rfl⟩⟩
      · rintro ⟨qs, q1, q2⟩
        match qs, q1, q2 with
        | [], q1, _ => have := q1.length_eq; simp at this; omega
        | q :: r, q1, q2 =>
          obtain ⟨i, hi, e⟩ := List.mem_iff_getElem.mp (q1.mem_iff.mp (List.mem_cons_self (a := q)))
          obtain ⟨a, b, ha, hb, rfl⟩ := TS_cons.mp q2
          subst e
          exact ⟨i, by omega, _, List.getElem?_eq_getElem hi, a, b, ha, ⟨r, (List.perm_cons _).mp (q1.trans (pe i hi).symm), hb⟩, rfl⟩
    · have hi' : i < ps.length := by omega
      have pp := pe i hi'
      have mem : ∀ p ∈ ps.eraseIdx i, p ∈ ps := fun p m => (List.eraseIdx_sublist _ _).subset m
      have hn' : (leavesL (ps[i] :: ps.eraseIdx i)).Nodup := (perm_leavesL pp).nodup_iff.mpr hn
      rw [leavesL_cons] at hn'
      have h1 := any_cnt (m := m) (ps := ps.eraseIdx i) (by rw [List.length_eraseIdx_of_lt hi']; omega) (List.nodup_append.mp hn').2.1 (fun p q => hp p (mem p q)) fun p q => hc p (mem p q)
      have h2 := (hc ps[i] (List.getElem_mem hi')).prod h1 (l := ps[i].leaves.length) fun a ha => ha.perm.length_eq
      have e : cnt ps[i] * (fct m * cntL (ps.eraseIdx i)) = fct m * cntL ps := by
        rw [← cntL_perm pp, cntL_cons, ← Nat.mul_assoc, ← Nat.mul_assoc, Nat.mul_comm (cnt _)]
      rw [e] at h2
      refine h2.congr fun o => ⟨fun ⟨a, b, h⟩ => ⟨_, List.getElem?_eq_getElem hi', a, b, h⟩, ?_⟩
      rintro ⟨p, hp1, a, b, h⟩
      rw [List.getElem?_eq_getElem hi'] at hp1
      cases hp1
      exact ⟨a, b, h⟩
    · obtain ⟨p, hp1, a, b, ha, _, rfl⟩ := h1
      obtain ⟨p', hp1', a', b', ha', _, e⟩ := h2
      have l1 := hp p (List.mem_of_getElem? hp1)
      have l2 := hp p' (List.mem_of_getElem? hp1')
      rw [← ha.perm.length_eq] at l1
      rw [← ha'.perm.length_eq] at l2
      match a, a', l1, l2 with
      | x :: a, y :: a', _, _ =>
        simp only [List.cons_append, List.cons.injEq] at e
        exact parts_disj hn hp1 hp1' (ha.perm.mem_iff.mp List.mem_cons_self) (ha'.perm.mem_iff.mp (e.1 ▸ List.mem_cons_self))
theorem perm_cnt {l : List Int} (h : l.Nodup) : Cnt (fun o : List Int => o.Perm l) (fct l.length) := by
  have e : leavesL (l.map Tr.leaf) = l := by
    rw [leavesL_eq, List.map_map]
    clear h
    induction l with
    | nil => rfl
    | cons a l ih => simp only [List.map_cons, List.flatten_cons, ih, Function.comp, leaves_leaf]; rfl
  have c1 : cntL (l.map Tr.leaf) = 1 := by
    clear h e
    induction l with
    | nil => simp
    | cons a l ih => simp [ih]
  have := any_cnt (ps := l.map Tr.leaf) (List.length_map ..) (by rw [e]; exact h) (fun p m => by
    obtain ⟨x, _, rfl⟩ := List.mem_map.mp m
    simp) fun p m => by
    obtain ⟨x, _, rfl⟩ := List.mem_map.mp m
    rw [cnt_leaf]
    exact Cnt.one fun o => told_leaf
  rw [c1, Nat.mul_one] at this
  refine this.congr fun o => ⟨?_, fun h => ⟨o.map Tr.leaf, h.map _, TS_leaf.mpr rfl⟩⟩
  rintro ⟨qs, h1, h2⟩
  have := h2.perm.trans (perm_leavesL h1)
  rwa [e] at this
end PC
set_option Elab.async false
set_option linter.all false
set_option maxRecDepth 100000
namespace PC
open PySem
end PC
set_option Elab.async false
set_option linter.all false
set_option maxRecDepth 100000
namespace PC
open PySem
open Tk (TogP)
/-- together in a ring -/
def ArP (P : Int → Prop) (o : List Int) : Prop := TogP P o ∨ TogP (fun x => ¬ P x) o
theorem s12 {x y z : Int} {a b : List Int} (h1 : x ∈ a) (h2 : [y, z].Sublist b) : [x, y, z].Sublist (a ++ b) := (List.singleton_sublist.mpr h1).append h2
theorem togP_iff {P Q : Int → Prop} {o : List Int} (h : ∀ x ∈ o, P x ↔ Q x) : TogP P o ↔ TogP Q o := by
  constructor
  · intro t x y z s hx hz
    exact (h y (s.subset (by simp))).mp (t x y z s ((h x (s.subset (by simp))).mpr hx) ((h z (s.subset (by simp))).mpr hz))
  · intro t x y z s hx hz
    exact (h y (s.subset (by simp))).mpr (t x y z s ((h x (s.subset (by simp))).mp hx) ((h z (s.subset (by simp))).mp hz))
/-- the orders that begin with 0 and fit around -/
def R0 (n : Nat) (S : List (List Int)) (o : List Int) : Prop := Ord n o ∧ o.head? = some 0 ∧ ∀ C ∈ S, ArP (· ∈ C) o
def compl (n : Nat) (C : List Int) : List Int := (iota 0 n).filter fun x => !decide (x ∈ C)
theorem mem_compl {n : Nat} {C : List Int} {x : Int} : x ∈ compl n C ↔ (0 ≤ x ∧ x < n) ∧ x ∉ C := by
  unfold compl
  rw [List.mem_filter, iota_mem]
  simp
def opened (n : Nat) (S : List (List Int)) : List (List Int) := S.map (fun C => if (0 : Int) ∈ C then compl n C else C) ++ [iota 1 (n - 1)]
theorem tog_togP {C o : List Int} : Tog C o ↔ TogP (· ∈ C) o := Iff.rfl
/-- 0 first: a set with 0 that stands together is a beginning -/
theorem head_tog {P : Int → Prop} {r : List Int} (h0 : P 0) (t : TogP P (0 :: r)) : TogP (fun x => ¬ P x) (0 :: r) := by
  intro x y z s px pz py
  have s' : [x, y, z].Sublist r := by
    rcases List.sublist_cons_iff.mp s with h | ⟨q, e, h⟩
    · exact h
    · cases e; exact absurd h0 px
  have s2 : [0, x, y].Sublist (0 :: r) := ((show [x, y].Sublist [x, y, z] by simp).trans s').cons_cons 0
  exact px (t 0 x y s2 h0 py)
theorem ar_open {n : Nat} {C r : List Int} (ho : Ord n (0 :: r)) : ArP (· ∈ C) (0 :: r) ↔ Tog (if (0 : Int) ∈ C then compl n C else C) (0 :: r) := by
  have hm : ∀ x ∈ (0 : Int) :: r, x ∈ compl n C ↔ ¬ x ∈ C := fun x m => by
    rw [mem_compl]
    have := iota_mem.mp (ho.mem_iff.mp m)
    exact ⟨fun h => h.2, fun h => ⟨by omega, h⟩⟩
  by_cases c : (0 : Int) ∈ C
  · rw [if_pos c, tog_togP, togP_iff (P := fun x => x ∈ compl n C) hm]
    exact ⟨fun h => h.elim (fun t => head_tog c t) id, .inr⟩
  · rw [if_neg c]
    refine ⟨fun h => h.elim id fun t => ?_, .inl⟩
    exact (togP_iff fun x m => Classical.not_not).mp (head_tog (P := fun x => ¬ x ∈ C) c t)
theorem r0_open {n : Nat} {S : List (List Int)} {o : List Int} (h : R0 n S o) : TogS (opened n S) o := by
  obtain ⟨ho, hd, hs⟩ := h
  match o, hd with
  | x :: r, hd =>
    simp only [List.head?_cons, Option.some.injEq] at hd
    subst hd
    intro C m
    rcases List.mem_append.mp m with m | m
    · obtain ⟨D, mD, rfl⟩ := List.mem_map.mp m
      exact (ar_open ho).mp (hs D mD)
    · rw [List.mem_singleton.mp m]
      intro x y z s hx hz
      have nd := ho.nodup_iff.mpr (iota_nodup n 0)
      have my := iota_mem.mp (ho.mem_iff.mp (s.subset (show y ∈ [x, y, z] by simp)))
      refine iota_mem.mpr ?_
      have : y ≠ 0 := by
        rintro rfl
        have : (0 : Int) ∈ r := by
          rcases List.sublist_cons_iff.mp s with h | ⟨q, e, h⟩
          · exact h.subset (by simp)
          · cases e; exact h.subset (by simp)
        exact (List.nodup_cons.mp nd).1 this
      omega
theorem Cnt.part {α : Type} {P Q : α → Prop} {m : Nat} (h : Cnt Q m) (s : ∀ o, P o → Q o) : ∃ m', Cnt P m' := by
  classical
  obtain ⟨L, n, e, rfl⟩ := h
  refine ⟨_, L.filter fun o => decide (P o), n.sublist List.filter_sublist, fun o => ?_, rfl⟩
  rw [List.mem_filter, e]
  simp only [decide_eq_true_eq]
  exact ⟨fun h => h.2, fun h => ⟨s o h, h⟩⟩
end PC
set_option Elab.async false
set_option linter.all false
set_option maxRecDepth 100000
namespace PC
open PySem
theorem R0.told {n : Nat} {S : List (List Int)} {r : Option Tr} {o : List Int} (h : R0 n S o) (hr : TreeOk n (opened n S) r) : ∃ t, r = some t ∧ Told t o := by
  cases r with
  | none => exact absurd (r0_open h) (hr o h.1)
  | some t => exact ⟨t, rfl, (hr.2.2 o).mpr ⟨h.1, r0_open h⟩⟩
end PC
set_option Elab.async false
set_option linter.all false
set_option maxRecDepth 100000
namespace PC
open PySem
structure Ren (n : Nat) (f g : Int → Int) : Prop where
  fr : ∀ x, 0 ≤ x ∧ x < (n : Int) → 0 ≤ f x ∧ f x < (n : Int)
  gr : ∀ x, 0 ≤ x ∧ x < (n : Int) → 0 ≤ g x ∧ g x < (n : Int)
  gf : ∀ x, 0 ≤ x ∧ x < (n : Int) → g (f x) = x
  fg : ∀ x, 0 ≤ x ∧ x < (n : Int) → f (g x) = x
section
variable {n k : Nat} {f g : Int → Int} {S S' : List (List Int)} {o names : List Int}
theorem Ren.symm (h : Ren n f g) : Ren n g f := ⟨h.gr, h.fr, h.fg, h.gf⟩
theorem ordR (ho : Ord n o) {x : Int} (m : x ∈ o) : 0 ≤ x ∧ x < (n : Int) := by have := iota_mem.mp (ho.mem_iff.mp m); omega
theorem Ren.nodup (h : Ren n f g) {l : List Int} (nd : l.Nodup) (hl : ∀ x ∈ l, 0 ≤ x ∧ x < (n : Int)) : (l.map f).Nodup := by
  show (l.map f).Pairwise (· ≠ ·)
  rw [List.pairwise_map]
  exact List.Pairwise.imp_of_mem (fun {a b} ha hb hab q => hab (by rw [← h.gf a (hl a ha), ← h.gf b (hl b hb), q])) nd
theorem Ren.ord (h : Ren n f g) (ho : Ord n o) : Ord n (o.map f) := by
  refine perm_of_iff (h.nodup (ho.nodup_iff.mpr (iota_nodup n 0)) fun x m => ordR ho m) (iota_nodup n 0) fun x => ?_
  rw [List.mem_map, iota_mem]
  constructor
  · rintro ⟨y, m, rfl⟩
    have := h.fr y (ordR ho m)
    omega
  · intro hx
    have hx' : 0 ≤ x ∧ x < (n : Int) := by omega
    have := h.gr x hx'
    exact ⟨g x, ho.mem_iff.mpr (iota_mem.mpr (by omega)), h.fg x hx'⟩
theorem Ren.back (h : Ren n f g) (ho : ∀ x ∈ o, 0 ≤ x ∧ x < (n : Int)) : (o.map f).map g = o := by
  rw [List.map_map]
  conv => rhs; rw [← List.map_id o]
  exact List.map_congr_left fun x m => h.gf x (ho x m)
/-- the new name of a thing -/
def nm (names : List Int) (x : Int) : Int := names.getD x.toNat 0
mutual
def Tr.ren (f : Int → Int) : Tr → Tr
  | .leaf i => .leaf (f i)
  | .node w ps => .node w (renL f ps)
def renL (f : Int → Int) : List Tr → List Tr
  | [] => []
  | t :: r => t.ren f :: renL f r
end
@[simp] theorem ren_leaf {i : Int} : (Tr.leaf i).ren f = .leaf (f i) := by simp [Tr.ren]
end
end PC
set_option Elab.async false
set_option linter.all false
set_option maxRecDepth 100000
namespace PC
open PySem
open Tk (TogP)
end PC
set_option Elab.async false
set_option linter.all false
set_option maxRecDepth 100000
namespace PC
open PySem
open Tk (TogP)
end PC
set_option Elab.async false
set_option linter.all false
set_option maxRecDepth 100000
namespace PC
open PySem
structure Blk (w : Bool) (ps : List Tr) (o : List Int) (q : List Nat) (B : Nat → List Int) : Prop where
  perm : q.Perm (List.range ps.length)
  told : ∀ i, i < ps.length → Told (ps.getD i (.leaf 0)) (B i)
  eq : o = (q.map B).flatten
  row : w = false → q = List.range ps.length ∨ q = (List.range ps.length).reverse
theorem range_getD (ps : List Tr) : (List.range ps.length).map (fun i => ps.getD i (.leaf 0)) = ps := by
  refine List.ext_getElem (by simp) fun i h1 h2 => ?_
  simp [h2]
section
variable {w : Bool} {ps : List Tr} {o : List Int} {q : List Nat} {B : Nat → List Int} {k : Nat}
/-- where a block begins -/
def st (q : List Nat) (B : Nat → List Int) (i : Nat) : Nat := ((q.take (q.idxOf i)).map B).flatten.length
theorem Blk.nodup (h : Blk w ps o q B) : q.Nodup := h.perm.nodup_iff.mpr List.nodup_range
theorem Blk.lt (h : Blk w ps o q B) {i : Nat} (m : i ∈ q) : i < ps.length := List.mem_range.mp (h.perm.mem_iff.mp m)
theorem Blk.len (h : Blk w ps o q B) : q.length = ps.length := by rw [h.perm.length_eq, List.length_range]
theorem Blk.blen (h : Blk w ps o q B) {i : Nat} (hi : i < ps.length) : (B i).length = (ps.getD i (.leaf 0)).leaves.length := (h.told i hi).perm.length_eq
theorem getDp_mem {i : Nat} (hi : i < ps.length) : ps.getD i (.leaf 0) ∈ ps := by
  rw [List.getD_eq_getElem?_getD, List.getElem?_eq_getElem hi]
  exact List.getElem_mem hi
theorem getD_some {i : Nat} (hi : i < ps.length) : ps[i]? = some (ps.getD i (.leaf 0)) := by
  rw [List.getD_eq_getElem?_getD, List.getElem?_eq_getElem hi]; rfl
theorem Blk.pos (h : Blk w ps o q B) (hp : ∀ p ∈ ps, 0 < p.leaves.length) {i : Nat} (hi : i < ps.length) : 0 < (B i).length := by
  rw [h.blen hi]; exact hp _ (getDp_mem hi)
end
end PC
set_option Elab.async false
set_option linter.all false
set_option maxRecDepth 100000
namespace PC
open PySem
end PC
set_option Elab.async false
set_option linter.all false
set_option maxRecDepth 100000
namespace PC
open PySem
end PC
set_option Elab.async false
set_option linter.all false
set_option maxRecDepth 100000
namespace PC
open PySem
end PC
set_option Elab.async false
set_option linter.all false
set_option maxRecDepth 100000
namespace PC
open PySem
end PC
set_option Elab.async false
set_option linter.all false
set_option maxRecDepth 100000
namespace PC
open PySem
end PC
set_option Elab.async false
set_option linter.all false
set_option maxRecDepth 100000
namespace PC
open PySem
end PC
set_option Elab.async false
set_option linter.all false
set_option maxRecDepth 100000
namespace PC
open PySem
/-- blocks that have the right things -/
structure PreB (ps : List Tr) (o : List Int) (q : List Nat) (B : Nat → List Int) : Prop where
  perm : q.Perm (List.range ps.length)
  perms : ∀ i, i < ps.length → (B i).Perm (ps.getD i (.leaf 0)).leaves
  eq : o = (q.map B).flatten
theorem TS_of {ps : List Tr} {B : Nat → List Int} : ∀ {q : List Nat}, (∀ i ∈ q, Told (ps.getD i (.leaf 0)) (B i)) → TS (q.map fun i => ps.getD i (.leaf 0)) (q.map B).flatten
  | [], _ => TS_nil.mpr rfl
  | i :: q, h => TS_cons.mpr ⟨_, _, h i List.mem_cons_self, TS_of fun j m => h j (List.mem_cons_of_mem _ m), rfl⟩
theorem PreB.told {w : Bool} {ps : List Tr} {o : List Int} {q : List Nat} {B : Nat → List Int} (h : PreB ps o q B) (ht : ∀ i, i < ps.length → Told (ps.getD i (.leaf 0)) (B i)) (hr : w = false → q = List.range ps.length ∨ q = (List.range ps.length).reverse) : Told (.node w ps) o := by
  refine told_node.mpr ⟨q.map fun i => ps.getD i (.leaf 0), ?_, ?_⟩
  · cases w with
    | true =>
      have := h.perm.map fun i => ps.getD i (.leaf 0)
      rw [range_getD] at this
      exact this
    | false =>
      rcases hr rfl with e | e
      · exact .inl (by rw [e, range_getD])
      · exact .inr (by rw [e, List.map_reverse, range_getD])
  · rw [h.eq]
    exact TS_of fun i m => ht i (List.mem_range.mp (h.perm.mem_iff.mp m))
end PC
set_option Elab.async false
set_option linter.all false
set_option maxRecDepth 100000
namespace PC
open PySem
end PC
set_option Elab.async false
set_option linter.all false
set_option maxRecDepth 100000
namespace PC
open PySem
end PC
set_option Elab.async false
set_option linter.all false
set_option maxRecDepth 100000
namespace PC
open PySem
end PC
set_option Elab.async false
set_option linter.all false
set_option maxRecDepth 100000
namespace PC
open PySem
section
variable {n k : Nat} {t p : Tr} {o : List Int} {a : Int} {ps r : List Tr} {w : Bool}
/-- the told orders that begin with a thing -/
def Fst (t : Tr) (a : Int) (o : List Int) : Prop := Told t o ∧ o.head? = some a
theorem Fst.mem (h : Fst t a o) : a ∈ t.leaves := h.1.perm.mem_iff.mp (List.mem_of_head? h.2)
end
end PC
set_option Elab.async false
set_option linter.all false
set_option maxRecDepth 100000
namespace PC
open PySem
end PC
set_option Elab.async false
set_option linter.all false
set_option maxRecDepth 100000
namespace PC
open PySem
/-- the part with a number -/
def gp (ps : List Tr) (x : Int) : Tr := ps.getD x.toNat (.leaf 0)
end PC
set_option Elab.async false
set_option linter.all false
set_option maxRecDepth 100000
namespace PC
open PySem
def Bet (a b c : Int) (o : List Int) : Prop := [a, b, c].Sublist o ∨ [c, b, a].Sublist o
theorem Bet.symm {a b c : Int} {o : List Int} (h : Bet a b c o) : Bet c b a o := Or.symm h
section
variable {w : Bool} {ps qs : List Tr} {o L : List Int} {a b c : Int} {p : Tr} {Q : List Int → Prop}
theorem get_idx {o : List Int} (hn : o.Nodup) {x : Int} {i : Nat} : o[i]? = some x ↔ i = o.idxOf x ∧ x ∈ o := by
  constructor
  · intro g
    obtain ⟨hi, e⟩ := List.getElem?_eq_some_iff.mp g
    rw [← e]
    exact ⟨(hn.idxOf_getElem i hi).symm, List.getElem_mem hi⟩
  · rintro ⟨rfl, m⟩
    have l := List.idxOf_lt_length_of_mem m
    rw [List.getElem?_eq_getElem l, List.getElem_idxOf l]
theorem sub3i {o : List Int} (hn : o.Nodup) : [a, b, c].Sublist o ↔ (a ∈ o ∧ b ∈ o ∧ c ∈ o) ∧ o.idxOf a < o.idxOf b ∧ o.idxOf b < o.idxOf c := by
  rw [idx3]
  constructor
  · rintro ⟨i, j, l, h1, h2, g1, g2, g3⟩
    obtain ⟨rfl, m1⟩ := (get_idx hn).mp g1
    obtain ⟨rfl, m2⟩ := (get_idx hn).mp g2
    obtain ⟨rfl, m3⟩ := (get_idx hn).mp g3
    exact ⟨⟨m1, m2, m3⟩, h1, h2⟩
  · rintro ⟨⟨m1, m2, m3⟩, h1, h2⟩
    exact ⟨_, _, _, h1, h2, (get_idx hn).mpr ⟨rfl, m1⟩, (get_idx hn).mpr ⟨rfl, m2⟩, (get_idx hn).mpr ⟨rfl, m3⟩⟩
theorem bet_idx {o : List Int} (hn : o.Nodup) (ma : a ∈ o) (mb : b ∈ o) (mc : c ∈ o) : Bet a b c o ↔ (o.idxOf a < o.idxOf b ∧ o.idxOf b < o.idxOf c) ∨ (o.idxOf c < o.idxOf b ∧ o.idxOf b < o.idxOf a) := by
  unfold Bet
  rw [sub3i hn, sub3i hn]
  simp [ma, mb, mc]
end
end PC
set_option Elab.async false
set_option linter.all false
set_option maxRecDepth 100000
namespace PC
open PySem
section
variable {w : Bool} {ps : List Tr} {o L : List Int} {a b c : Int}
theorem idx_ne {o : List Int} {x y : Int} (mx : x ∈ o) (my : y ∈ o) (ne : x ≠ y) : o.idxOf x ≠ o.idxOf y := fun e => ne (by
  have lx := List.idxOf_lt_length_of_mem mx
  have ly := List.idxOf_lt_length_of_mem my
  have : o[o.idxOf x]? = o[o.idxOf y]? := by rw [e]
  rw [List.getElem?_eq_getElem lx, List.getElem?_eq_getElem ly, List.getElem_idxOf lx, List.getElem_idxOf ly] at this
  exact Option.some.inj this)
theorem bet_one {o : List Int} (hn : o.Nodup) (ma : a ∈ o) (mb : b ∈ o) (mc : c ∈ o) (h1 : a ≠ b) (h2 : a ≠ c) (h3 : b ≠ c) : (Bet a b c o ∨ Bet b a c o ∨ Bet a c b o) ∧ ¬ (Bet a b c o ∧ Bet b a c o) ∧ ¬ (Bet a b c o ∧ Bet a c b o) ∧ ¬ (Bet b a c o ∧ Bet a c b o) := by
  rw [bet_idx hn ma mb mc, bet_idx hn mb ma mc, bet_idx hn ma mc mb]
  have := idx_ne ma mb h1
  have := idx_ne ma mc h2
  have := idx_ne mb mc h3
  omega
/-- two names exchanged -/
def swp (i j x : Int) : Int := if x = i then j else if x = j then i else x
theorem swp_swp (i j x : Int) : swp i j (swp i j x) = x := by
  unfold swp
  by_cases h1 : x = i
  · subst h1
    by_cases h2 : j = x
    · simp [h2]
    · simp [h2]
  · by_cases h2 : x = j
    · subst h2; simp [h1]
    · simp [h1, h2]
theorem swp_l (i j : Int) : swp i j i = j := by simp [swp]
theorem swp_r (i j : Int) : swp i j j = i := by
  unfold swp
  by_cases h : j = i
  · simp [h]
  · simp [h]
theorem swp_o {i j x : Int} (h1 : x ≠ i) (h2 : x ≠ j) : swp i j x = x := by simp [swp, h1, h2]
theorem swp_map (i j : Int) (L : List Int) : (L.map (swp i j)).map (swp i j) = L := by
  rw [List.map_map]
  conv => rhs; rw [← List.map_id L]
  exact List.map_congr_left fun x _ => swp_swp i j x
theorem bet_swp (i j : Int) : Bet (swp i j a) (swp i j b) (swp i j c) (L.map (swp i j)) ↔ Bet a b c L := by
  have fwd : ∀ {x y z : Int} {L : List Int}, [x, y, z].Sublist L → [swp i j x, swp i j y, swp i j z].Sublist (L.map (swp i j)) := fun s => s.map (swp i j)
  constructor
  · rintro (s | s)
    · have := fwd s
      rw [swp_map] at this
      simp only [swp_swp] at this
      exact .inl this
    · have := fwd s
      rw [swp_map] at this
      simp only [swp_swp] at this
      exact .inr this
  · rintro (s | s)
    · exact .inl (fwd s)
    · exact .inr (fwd s)
theorem swp_perm {m : Nat} {i j : Int} (hi : 0 ≤ i ∧ i < (m : Int)) (hj : 0 ≤ j ∧ j < (m : Int)) (h : L.Perm (iota 0 m)) : (L.map (swp i j)).Perm (iota 0 m) :=
  Ren.ord (n := m) (f := swp i j) (g := swp i j) ⟨fun x hx => by unfold swp; split <;> (try split) <;> omega, fun x hx => by unfold swp; split <;> (try split) <;> omega, fun x _ => swp_swp i j x, fun x _ => swp_swp i j x⟩ h
/-- in a third of all sequences a number is in the middle of two others -/
theorem third {m : Nat} {i j l : Int} (hi : 0 ≤ i ∧ i < (m : Int)) (hj : 0 ≤ j ∧ j < (m : Int)) (hl : 0 ≤ l ∧ l < (m : Int)) (h1 : i ≠ j) (h2 : i ≠ l) (h3 : j ≠ l) : ∃ g, Cnt (fun L : List Int => L.Perm (iota 0 m) ∧ Bet i j l L) g ∧ g * 3 = fct m := by
  have all := perm_cnt (iota_nodup m 0)
  rw [iota_len] at all
  obtain ⟨g, cg⟩ := all.part (P := fun L : List Int => L.Perm (iota 0 m) ∧ Bet i j l L) fun L h => h.1
  have c2 : Cnt (fun L : List Int => L.Perm (iota 0 m) ∧ Bet j i l L) g := cg.map (List.map (swp i j)) (fun x y _ _ e => by
    have := congrArg (List.map (swp i j)) e
    rwa [swp_map, swp_map] at this) fun L => by
    have key : ∀ L : List Int, Bet j i l (L.map (swp i j)) ↔ Bet i j l L := fun L => by
      have := bet_swp (a := i) (b := j) (c := l) (L := L) i j
      rwa [swp_l, swp_r, swp_o (fun e => h2 e.symm) (fun e => h3 e.symm)] at this
    constructor
    · rintro ⟨hp, hb⟩
      refine ⟨L.map (swp i j), ⟨swp_perm hi hj hp, ?_⟩, swp_map i j L⟩
      rw [← key, swp_map]; exact hb
    · rintro ⟨L', ⟨hp, hb⟩, rfl⟩
      exact ⟨swp_perm hi hj hp, (key L').mpr hb⟩
  have c3 : Cnt (fun L : List Int => L.Perm (iota 0 m) ∧ Bet i l j L) g := cg.map (List.map (swp j l)) (fun x y _ _ e => by
    have := congrArg (List.map (swp j l)) e
    rwa [swp_map, swp_map] at this) fun L => by
    have key : ∀ L : List Int, Bet i l j (L.map (swp j l)) ↔ Bet i j l L := fun L => by
      have := bet_swp (a := i) (b := j) (c := l) (L := L) j l
      rwa [swp_l, swp_r, swp_o h1 h2] at this
    constructor
    · rintro ⟨hp, hb⟩
      refine ⟨L.map (swp j l), ⟨swp_perm hj hl hp, ?_⟩, swp_map j l L⟩
      rw [← key, swp_map]; exact hb
    · rintro ⟨L', ⟨hp, hb⟩, rfl⟩
      exact ⟨swp_perm hj hl hp, (key L').mpr hb⟩
  have one : ∀ L : List Int, L.Perm (iota 0 m) → _ := fun L hp => bet_one (o := L) (hp.nodup_iff.mpr (iota_nodup m 0)) (hp.mem_iff.mpr (iota_mem.mpr (show (0 : Int) ≤ i ∧ i < 0 + (m : Int) by omega))) (hp.mem_iff.mpr (iota_mem.mpr (show (0 : Int) ≤ j ∧ j < 0 + (m : Int) by omega))) (hp.mem_iff.mpr (iota_mem.mpr (show (0 : Int) ≤ l ∧ l < 0 + (m : Int) by omega))) h1 h2 h3
  have s := ((cg.or c2 fun L q1 q2 => (one L q1.1).2.1 ⟨q1.2, q2.2⟩).or c3 fun L q1 q2 => q1.elim (fun q1 => (one L q1.1).2.2.1 ⟨q1.2, q2.2⟩) fun q1 => (one L q1.1).2.2.2 ⟨q1.2, q2.2⟩).congr (Q := fun L : List Int => L.Perm (iota 0 m)) fun L => by
    constructor
    · rintro ((q | q) | q) <;> exact q.1
    · intro hp
      rcases (one L hp).1 with q | q | q
      · exact .inl (.inl ⟨hp, q⟩)
      · exact .inl (.inr ⟨hp, q⟩)
      · exact .inr ⟨hp, q⟩
  exact ⟨g, cg, by rw [all.uniq s]; omega⟩
end
end PC
set_option Elab.async false
set_option linter.all false
set_option maxRecDepth 100000
namespace PC
open PySem
end PC
set_option Elab.async false
set_option linter.all false
set_option maxRecDepth 100000
namespace PC
open PySem
end PC
set_option Elab.async false
set_option linter.all false
set_option maxRecDepth 100000
namespace PC
open PySem
mutual
/-- the sets that collect_sets finds, in its sequence -/
def setsT : Tr → List (List Int)
  | .leaf _ => []
  | .node w ps => (if w then [isort (leavesL ps)] else pairS ps) ++ setsL ps
def setsL : List Tr → List (List Int)
  | [] => []
  | t :: r => setsT t ++ setsL r
def pairS : List Tr → List (List Int)
  | [] => []
  | [_] => []
  | p :: q :: r => isort (p.leaves ++ q.leaves) :: pairS (q :: r)
end
theorem setsL_mem {C : List Int} : ∀ {ps : List Tr}, C ∈ setsL ps ↔ ∃ p ∈ ps, C ∈ setsT p
  | [] => by simp [setsL]
  | t :: r => by simp [setsL, setsL_mem (ps := r)]
theorem pairS_mem {C : List Int} : ∀ {ps : List Tr}, C ∈ pairS ps ↔ ∃ A p q B, ps = A ++ p :: q :: B ∧ C = isort (p.leaves ++ q.leaves)
  | [] => by simp [pairS]
  | [t] => by
    simp only [pairS, List.not_mem_nil, false_iff]
    rintro ⟨A, p, q, B, e, _⟩
    have := congrArg List.length e
    simp at this
    omega
  | p :: q :: r => by
    rw [pairS, List.mem_cons, pairS_mem (ps := q :: r)]
    constructor
    · rintro (rfl | ⟨A, p', q', B, e, rfl⟩)
      · exact ⟨[], p, q, r, rfl, rfl⟩
      · exact ⟨p :: A, p', q', B, by rw [e]; rfl, rfl⟩
    · rintro ⟨A, p', q', B, e, rfl⟩
      cases A with
      | nil =>
        simp only [List.nil_append, List.cons.injEq] at e
        obtain ⟨rfl, rfl, rfl⟩ := e
        exact .inl rfl
      | cons a A =>
        simp only [List.cons_append, List.cons.injEq] at e
        exact .inr ⟨A, p', q', B, e.2, rfl⟩
theorem setsT_sub {t : Tr} : ∀ {C : List Int}, C ∈ setsT t → ∀ x ∈ C, x ∈ t.leaves := by
  induction t using Tr.ind with
  | hl i => intro C h; simp [setsT] at h
  | hn w ps ih =>
    intro C h x hx
    rw [setsT, List.mem_append] at h
    rw [leaves_node]
    rcases h with h | h
    · cases w with
      | true =>
        simp only [if_true, List.mem_singleton] at h
        subst h
        exact (isort_perm_m _).mem_iff.mp hx
      | false =>
        simp only [Bool.false_eq_true, if_false] at h
        obtain ⟨A, p, q, B, rfl, rfl⟩ := pairS_mem.mp h
        have := (isort_perm_m _).mem_iff.mp hx
        rw [leavesL_append, leavesL_cons, leavesL_cons]
        simp only [List.mem_append] at this ⊢
        rcases this with h | h
        · exact .inr (.inl h)
        · exact .inr (.inr (.inl h))
    · obtain ⟨p, mp, h⟩ := setsL_mem.mp h
      exact mem_leavesL.mpr ⟨p, mp, ih p mp h x hx⟩
end PC
set_option Elab.async false
set_option linter.all false
set_option maxRecDepth 100000
namespace PC
open PySem
end PC
set_option Elab.async false
set_option linter.all false
set_option maxRecDepth 100000
namespace PC
open PySem
end PC
set_option Elab.async false
set_option linter.all false
set_option maxRecDepth 100000
namespace PC
open PySem
end PC
set_option Elab.async false
set_option linter.all false
set_option maxRecDepth 100000
namespace PC
open PySem
theorem setsT_leaf {i : Int} : setsT (.leaf i) = [] := by simp [setsT]
theorem setsT_node {w : Bool} {ps : List Tr} : setsT (.node w ps) = (if w then [isort (leavesL ps)] else pairS ps) ++ setsL ps := by simp [setsT]
theorem isort_lt {l : List Int} (h : l.Nodup) : (isort l).Pairwise (· < ·) := by
  have hn : (isort l).Nodup := (isort_perm_m l).nodup_iff.mpr h
  exact List.Pairwise.imp₂ (fun a b h1 h2 => by omega) (isort_sorted_m l) hn
theorem setsT_shape {t : Tr} : t.Form → t.leaves.Nodup → ∀ C ∈ setsT t, C.Pairwise (· < ·) ∧ C ≠ [] := by
  induction t using Tr.ind with
  | hl i => intro _ _ C m; rw [setsT_leaf] at m; cases m
  | hn w ps ih =>
    intro hf hn C m
    obtain ⟨f1, f2, f3⟩ := Form_node.mp hf
    rw [leaves_node] at hn
    rw [setsT_node] at m
    rcases List.mem_append.mp m with m | m
    · have ne : ∀ l : List Int, 0 < l.length → isort l ≠ [] := fun l h e => by
        have := (isort_perm_m l).length_eq
        rw [e] at this
        simp at this
        omega
      have hpos : ∀ {p}, p ∈ ps → 0 < p.leaves.length := fun m => leaves_pos _ (f3 _ m)
      cases w with
      | true =>
        simp only [if_true, List.mem_singleton] at m
        subst m
        refine ⟨isort_lt hn, ne _ ?_⟩
        obtain ⟨p, hp⟩ : ∃ p, p ∈ ps := ⟨ps[0]'(by omega), List.getElem_mem _⟩
        have := hpos hp
        have := len_part hp
        omega
      | false =>
        simp only [Bool.false_eq_true, if_false] at m
        obtain ⟨A, p, q, B, e, rfl⟩ := pairS_mem.mp m
        subst e
        have hpq : (p.leaves ++ q.leaves).Nodup := by
          have : (leavesL (A ++ p :: q :: B)) = leavesL A ++ ((p.leaves ++ q.leaves) ++ leavesL B) := by
            have key : ∀ A : List Tr, leavesL (A ++ p :: q :: B) = leavesL A ++ ((p.leaves ++ q.leaves) ++ leavesL B) := by
              intro A
              induction A with
              | nil => simp
              | cons a A ih => rw [List.cons_append, leavesL_cons, leavesL_cons, ih]; simp
            exact key A
          rw [this] at hn
          exact (List.nodup_append.mp (List.nodup_append.mp hn).2.1).1
        refine ⟨isort_lt hpq, ne _ ?_⟩
        have := hpos (p := p) (by simp)
        rw [List.length_append]
        omega
    · obtain ⟨p, hp, m⟩ := setsL_mem.mp m
      exact ih p hp (f3 p hp) (nodup_part hp hn) C m
theorem sets_vset {n : Nat} {t : Tr} {C : List Int} (h : Over n t) (m : C ∈ setsT t) : VSet n C ∧ C ≠ [] := by
  obtain ⟨h1, h2⟩ := setsT_shape h.form h.nodup C m
  exact ⟨⟨h1, fun x hx => by have := iota_mem.mp (h.perm.mem_iff.mp (setsT_sub m x hx)); omega⟩, h2⟩
end PC
set_option Elab.async false
set_option linter.all false
set_option maxRecDepth 100000
namespace PC
open PySem
/-- what the law collects -/
structure SetsOf (t : Tr) (L : List (List Int)) : Prop where
  nd : L.Nodup
  mem : ∀ C, C ∈ L ↔ C ∈ setsT t
  len : L.length ≤ (setsT t).length
theorem SetsOf.sorted {n : Nat} {t : Tr} {L : List (List Int)} (h : Over n t) (q : SetsOf t L) : sortTL L = .ok (usort (setsT t)) := by
  unfold sortTL
  rw [if_pos (List.all_eq_true.mpr fun C m => by
    have := (sets_vset h ((q.mem C).mp m)).2
    cases C with
    | nil => exact absurd rfl this
    | cons x r => rfl)]
  congr 1
  have hs : (L.mergeSort leTL).Pairwise (· ≤ ·) := by
    have := List.pairwise_mergeSort (le := leTL) (fun a b c h1 h2 => by
      unfold leTL at *
      simp only [decide_eq_true_eq] at *
      exact List.le_trans h1 h2) (fun a b => by
      unfold leTL
      simp only [Bool.or_eq_true, decide_eq_true_eq]
      exact List.le_total _ _) L
    exact this.imp fun h => by simpa [leTL] using h
  have hp := List.mergeSort_perm L leTL
  refine strict_uniq (strict_of hs (hp.nodup_iff.mpr q.nd)) (usort_sorted _) fun x => ?_
  rw [hp.mem_iff, q.mem, usort_mem]
end PC
set_option Elab.async false
set_option linter.all false
set_option maxRecDepth 100000
namespace PC
namespace Gr
open Classical
/-- a way along edges that has none of the barred -/
inductive Wk (E : Int → Int → Prop) (B : Int → Prop) : Int → Int → Prop
  | refl {x : Int} : ¬ B x → Wk E B x x
  | step {x y z : Int} : Wk E B x y → E y z → ¬ B z → Wk E B x z
section
variable {E : Int → Int → Prop} {B B' : Int → Prop} {x y z : Int}
theorem Wk.left (h : Wk E B x y) : ¬ B x := by induction h with | refl h => exact h | step _ _ _ ih => exact ih
theorem Wk.right (h : Wk E B x y) : ¬ B y := by cases h with | refl h => exact h | step _ _ h => exact h
theorem Wk.trans (h : Wk E B x y) (g : Wk E B y z) : Wk E B x z := by
  induction g with
  | refl _ => exact h
  | step _ e n ih => exact .step ih e n
theorem Wk.one (hx : ¬ B x) (e : E x y) (hy : ¬ B y) : Wk E B x y := .step (.refl hx) e hy
theorem Wk.symm (s : ∀ a b, E a b → E b a) (h : Wk E B x y) : Wk E B y x := by
  induction h with
  | refl h => exact .refl h
  | step w e n ih => exact (Wk.one n (s _ _ e) w.right).trans ih
/-- what is avoided by all that is met -/
theorem Wk.avoid (h : Wk E B x y) (q : ∀ z, Wk E B x z → ¬ B' z) : Wk E B' x y := by
  induction h with
  | refl h => exact .refl (q _ (.refl h))
  | step w e n ih => exact .step ih e (q _ (.step w e n))
theorem Wk.mono (h : Wk E B x y) (q : ∀ z, B' z → B z) : Wk E B' x y := h.avoid fun z w b => w.right (q z b)
end
section
variable {E : Int → Int → Prop}
/-- a greatest clique -/
structure Clq (E : Int → Int → Prop) (C : List Int) : Prop where
  nd : C.Nodup
  adj : ∀ a ∈ C, ∀ b ∈ C, a ≠ b → E a b
  max : ∀ h, (∀ c ∈ C, E h c) → False
end
end Gr
end PC
set_option Elab.async false
set_option linter.all false
set_option maxRecDepth 100000
namespace PC
open PySem
namespace Gr
/-- who met whom, by the lists of neighbors -/
def Ed (G : List (List Int)) (a b : Int) : Prop := 0 ≤ a ∧ b ∈ G.getD a.toNat []
structure GOk (n : Nat) (G : List (List Int)) : Prop where
  len : G.length = n
  bnd : ∀ a b, Ed G a b → a < n ∧ 0 ≤ b ∧ b < n
  sym : ∀ a b, Ed G a b → Ed G b a
  irr : ∀ a, ¬ Ed G a a
variable {n : Nat} {G : List (List Int)}
theorem ed_iff {a b : Int} (h0 : 0 ≤ a) : b ∈ G.getD a.toNat [] ↔ Ed G a b := ⟨fun h => ⟨h0, h⟩, fun h => h.2⟩
structure WayOk (n : Nat) (G : List (List Int)) (s g : Int) (bar : List Int) (w : List Int) : Prop where
  ne : w ≠ []
  hd : w.getD 0 0 = s
  lst : lastD w = g
  av : ∀ x ∈ w, x ∉ bar
  edge : ∀ i, i + 1 < w.length → Ed G (w.getD i 0) (w.getD (i + 1) 0)
  nd : w.Nodup
  ind : ∀ i j, i + 1 < j → j < w.length → ¬ Ed G (w.getD i 0) (w.getD j 0)
  len : w.length ≤ n
/-- how the search came to a way -/
structure Trail (G : List (List Int)) (s : Int) (ws : List (List Int)) (p : Nat) (w : List Int) (idx : List Nat) : Prop where
  len : idx.length = w.length
  pos : 0 < w.length
  inc : ∀ i j, i < j → j < w.length → idx.getD i 0 < idx.getD j 0
  last : idx.getD (w.length - 1) 0 = p
  val : ∀ i, i < w.length → ∃ v, ws[idx.getD i 0]? = some v ∧ lastD v = w.getD i 0
  hd : w.getD 0 0 = s
  edge : ∀ i, i + 1 < w.length → Ed G (w.getD i 0) (w.getD (i + 1) 0) ∧ ∀ q, q < idx.getD i 0 → ∀ v, ws[q]? = some v → ¬ Ed G (lastD v) (w.getD (i + 1) 0)
structure Bfs (n : Nat) (G : List (List Int)) (s g : Int) (bar : List Int) (ws : List (List Int)) (sn : List (Int × Bool)) (at_ : Nat) : Prop where
  seen : sn.map Prod.fst = ws.map lastD
  nd : (ws.map lastD).Nodup
  sz : ∀ w ∈ ws, w.length ≤ ws.length
  tr : ∀ p w, ws[p]? = some w → ∃ idx, Trail G s ws p w idx
  wh : ∀ w ∈ ws, lastD w ∉ bar ∧ 0 ≤ lastD w ∧ lastD w < n
  le : at_ ≤ ws.length
  don : ∀ j, j < at_ → ∀ w, ws[j]? = some w → lastD w ≠ g ∧ ∀ y, Ed G (lastD w) y → y ∉ bar → y ∈ ws.map lastD
  fst : s ∈ ws.map lastD
theorem Bfs.few {s g : Int} {bar : List Int} {ws : List (List Int)} {sn : List (Int × Bool)} {at_ : Nat} (h : Bfs n G s g bar ws sn at_) : ws.length ≤ n := by
  have h1 := len_of_sub h.nd (b := iota 0 n) fun x m => by
    obtain ⟨w, mw, rfl⟩ := List.mem_map.mp m
    have := (h.wh w mw).2
    exact iota_mem.mpr (by omega)
  rwa [List.length_map, iota_len] at h1
theorem Trail.lt {s : Int} {ws : List (List Int)} {p : Nat} {w : List Int} {idx : List Nat} (h : Trail G s ws p w idx) {i : Nat} (hi : i < w.length) : idx.getD i 0 < ws.length := by
  obtain ⟨v, e, _⟩ := h.val i hi
  exact (List.getElem?_eq_some_iff.mp e).1
theorem Trail.grow {s : Int} {ws : List (List Int)} {p : Nat} {w x : List Int} {idx : List Nat} (h : Trail G s ws p w idx) : Trail G s (ws ++ [x]) p w idx := by
  refine ⟨h.len, h.pos, h.inc, h.last, fun i hi => ?_, h.hd, fun i hi => ⟨(h.edge i hi).1, fun q hq v e => (h.edge i hi).2 q hq v ?_⟩⟩
  · obtain ⟨v, e1, e2⟩ := h.val i hi
    exact ⟨v, by rw [List.getElem?_append_left (h.lt hi)]; exact e1, e2⟩
  · rwa [List.getElem?_append_left (by have := h.lt (show i < w.length by omega); omega)] at e
theorem getD_snoc {α : Type} {l : List α} {x d : α} {i : Nat} : (l ++ [x]).getD i d = if i < l.length then l.getD i d else if i = l.length then x else d := by
  simp only [List.getD_eq_getElem?_getD]
  by_cases c : i < l.length
  · rw [if_pos c, List.getElem?_append_left c]
  · rw [if_neg c]
    by_cases c2 : i = l.length
    · subst c2; simp
    · rw [if_neg c2, List.getElem?_eq_none (by simp; omega)]; rfl
theorem Trail.snoc {s y : Int} {ws : List (List Int)} {p : Nat} {w : List Int} {idx : List Nat} (h : Trail G s ws p w idx) (hw : ws[p]? = some w) (e : Ed G (lastD w) y) (nq : ∀ q, q < p → ∀ v, ws[q]? = some v → ¬ Ed G (lastD v) y) :
    Trail G s (ws ++ [w ++ [y]]) ws.length (w ++ [y]) (idx ++ [ws.length]) := by
  have hp : p < ws.length := (List.getElem?_eq_some_iff.mp hw).1
  have hpos := h.pos
  have hlen := h.len
  have hl : (w ++ [y]).length = w.length + 1 := by simp
  have gi : ∀ i, i < w.length → (idx ++ [ws.length]).getD i 0 = idx.getD i 0 := fun i hi => by rw [getD_snoc, if_pos (by omega)]
  have gl : (idx ++ [ws.length]).getD w.length 0 = ws.length := by rw [getD_snoc, if_neg (by omega), if_pos hlen.symm]
  have vi : ∀ i, i < w.length → (w ++ [y]).getD i 0 = w.getD i 0 := fun i hi => by rw [getD_snoc, if_pos hi]
  have vl : (w ++ [y]).getD w.length 0 = y := by rw [getD_snoc, if_neg (by omega), if_pos rfl]
  refine ⟨by simp [hlen], by omega, fun i j hij hj => ?_, by rw [hl]; simpa using gl, fun i hi => ?_, by rw [vi 0 hpos]; exact h.hd, fun i hi => ?_⟩
  · rw [hl] at hj
    by_cases c : j < w.length
    · rw [gi i (by omega), gi j c]; exact h.inc i j hij c
    · have : j = w.length := by omega
      subst this
      rw [gl, gi i hij]
      exact h.lt hij
  · rw [hl] at hi
    by_cases c : i < w.length
    · obtain ⟨v, e1, e2⟩ := h.val i c
      refine ⟨v, ?_, by rw [vi i c]; exact e2⟩
      rw [gi i c, List.getElem?_append_left (h.lt c)]
      exact e1
    · have : i = w.length := by omega
      subst this
      refine ⟨w ++ [y], by rw [gl]; simp, by rw [vl, lastD_snoc]⟩
  · rw [hl] at hi
    by_cases c : i + 1 < w.length
    · rw [gi i (by omega), vi i (by omega), vi (i + 1) c]
      refine ⟨(h.edge i c).1, fun q hq v ev => (h.edge i c).2 q hq v ?_⟩
      rwa [List.getElem?_append_left (by have := h.lt (show i < w.length by omega); omega)] at ev
    · have : i + 1 = w.length := by omega
      rw [this, vl, gi i (by omega), vi i (by omega)]
      have ei : i = w.length - 1 := by omega
      have el : w.getD i 0 = lastD w := by rw [ei]; rfl
      have ep : idx.getD i 0 = p := by rw [ei]; exact h.last
      rw [el, ep]
      refine ⟨e, fun q hq v ev => nq q hq v ?_⟩
      rwa [List.getElem?_append_left (by omega)] at ev
theorem Bfs.none {s g : Int} {bar : List Int} {ws : List (List Int)} {sn : List (Int × Bool)} (h : Bfs n G s g bar ws sn ws.length) : ¬ Wk (Ed G) (· ∈ bar) s g := by
  intro w
  have key : ∀ {y}, Wk (Ed G) (· ∈ bar) s y → y ∈ ws.map lastD := by
    intro y w
    induction w with
    | refl _ => exact h.fst
    | @step y z _ e nz ih =>
      obtain ⟨v, mv, rfl⟩ := List.mem_map.mp ih
      obtain ⟨j, hj, ej⟩ := List.getElem_of_mem mv
      exact (h.don j hj v (by rw [List.getElem?_eq_getElem hj, ej])).2 z e nz
  obtain ⟨v, mv, e⟩ := List.mem_map.mp (key w)
  obtain ⟨j, hj, ej⟩ := List.getElem_of_mem mv
  exact (h.don j hj v (by rw [List.getElem?_eq_getElem hj, ej])).1 e
theorem lastD_one (s : Int) : lastD [s] = s := rfl
theorem Bfs.start {s g : Int} {bar : List Int} (h0 : 0 ≤ s) (h1 : s < n) (hs : s ∉ bar) : Bfs n G s g bar [[s]] [(s, true)] 0 := by
  refine ⟨rfl, by simp, fun w m => by simp at m; subst m; simp, fun p w e => ?_, fun w m => by simp at m; subst m; exact ⟨hs, h0, h1⟩, by omega, fun j hj => by omega, by simp [lastD_one]⟩
  have : p = 0 ∧ w = [s] := by
    cases p with
    | zero => exact ⟨rfl, by simpa using e.symm⟩
    | succ p => simp at e
  obtain ⟨rfl, rfl⟩ := this
  exact ⟨[0], rfl, by simp, fun i j hij hj => by simp at hj; omega, rfl, fun i hi => by
    have : i = 0 := by simp at hi; exact hi
    subst this
    exact ⟨[s], rfl, rfl⟩, rfl, fun i hi => by simp at hi⟩
/-- one more person -/
theorem Bfs.add {s g y : Int} {bar : List Int} {ws : List (List Int)} {sn : List (Int × Bool)} {j : Nat} {w : List Int} (h : Bfs n G s g bar ws sn j) (hG : GOk n G) (hw : ws[j]? = some w) (e : Ed G (lastD w) y) (nb : y ∉ bar) (ny : y ∉ ws.map lastD) :
    Bfs n G s g bar (ws ++ [w ++ [y]]) (sn ++ [(y, true)]) j := by
  have hm : (ws ++ [w ++ [y]]).map lastD = ws.map lastD ++ [y] := by rw [List.map_append]; simp [lastD_snoc]
  refine ⟨by rw [hm, List.map_append, h.seen]; rfl, ?_, fun v m => ?_, fun p v ev => ?_, fun v m => ?_, by have := h.le; simp; omega, fun i hi v ev => ?_, by rw [hm]; exact List.mem_append_left _ h.fst⟩
  · rw [hm]
    refine List.nodup_append.mpr ⟨h.nd, by simp, fun a ha b hb q => ?_⟩
    rw [List.mem_singleton.mp hb] at q
    subst q
    exact ny ha
  · rcases List.mem_append.mp m with m | m
    · have := h.sz v m
      simp; omega
    · rw [List.mem_singleton.mp m]
      have := h.sz w (List.mem_of_getElem? hw)
      simp; omega
  · by_cases c : p < ws.length
    · rw [List.getElem?_append_left c] at ev
      obtain ⟨idx, t⟩ := h.tr p v ev
      exact ⟨idx, t.grow⟩
    · have hp : p = ws.length := by
        have := (List.getElem?_eq_some_iff.mp ev).1
        simp at this
        omega
      subst hp
      have : v = w ++ [y] := by simpa using ev.symm
      subst this
      obtain ⟨idx, t⟩ := h.tr j w hw
      refine ⟨_, t.snoc hw e fun q hq u eu ed => ?_⟩
      exact ny ((h.don q hq u eu).2 y ed nb)
  · rcases List.mem_append.mp m with m | m
    · exact h.wh v m
    · rw [List.mem_singleton.mp m, lastD_snoc]
      exact ⟨nb, (hG.bnd _ _ e).2⟩
  · have hjl := (List.getElem?_eq_some_iff.mp hw).1
    rw [List.getElem?_append_left (by omega)] at ev
    obtain ⟨d1, d2⟩ := h.don i hi v ev
    exact ⟨d1, fun z ez nz => by rw [hm]; exact List.mem_append_left _ (d2 z ez nz)⟩
theorem Bfs.next {s g : Int} {bar : List Int} {ws : List (List Int)} {sn : List (Int × Bool)} {j : Nat} {w : List Int} (h : Bfs n G s g bar ws sn j) (hw : ws[j]? = some w) (hg : lastD w ≠ g) (cl : ∀ y, Ed G (lastD w) y → y ∉ bar → y ∈ ws.map lastD) : Bfs n G s g bar ws sn (j + 1) := by
  refine ⟨h.seen, h.nd, h.sz, h.tr, h.wh, (List.getElem?_eq_some_iff.mp hw).1, fun i hi v ev => ?_, h.fst⟩
  by_cases c : i < j
  · exact h.don i c v ev
  · have : i = j := by omega
    subst this
    rw [hw] at ev
    cases ev
    exact ⟨hg, cl⟩
end Gr
end PC
set_option Elab.async false
set_option linter.all false
set_option maxRecDepth 100000
namespace PC
open PySem
namespace Gr
variable {n : Nat} {G : List (List Int)}
theorem Bfs.sn {s g : Int} {bar : List Int} {ws : List (List Int)} {sn : List (Int × Bool)} {at_ : Nat} (h : Bfs n G s g bar ws sn at_) : sn.length = ws.length := by
  have := congrArg List.length h.seen
  simpa using this
end Gr
end PC
set_option Elab.async false
set_option linter.all false
set_option maxRecDepth 100000
namespace PC
open PySem
namespace Gr
variable {n : Nat} {G : List (List Int)}
structure RingOk (n : Nat) (G : List (List Int)) (r : List Int) : Prop where
  len : 4 ≤ r.length
  few : r.length ≤ n + 1
  nd : r.Nodup
  rng : ∀ x ∈ r, 0 ≤ x ∧ x < n
  ed : ∀ i j, j < i → i < r.length → (Ed G (r.getD i 0) (r.getD j 0) ↔ (i - j = 1 ∨ i - j = r.length - 1))
def barR (G : List (List Int)) (v a b : Int) : List Int := ((G.getD v.toNat []).filter fun third => ((!decide (third = a)) && (!decide (third = b)))) ++ [v]
theorem barR_mem {v a b x : Int} (h0 : 0 ≤ v) : x ∈ barR G v a b ↔ x = v ∨ (Ed G v x ∧ x ≠ a ∧ x ≠ b) := by
  unfold barR
  rw [List.mem_append, List.mem_filter, List.mem_singleton, ed_iff h0]
  simp only [Bool.and_eq_true, Bool.not_eq_true', decide_eq_false_iff_not]
  exact Or.comm
theorem Ed.lt (hG : GOk n G) {a b : Int} (h : Ed G a b) : 0 ≤ a ∧ a < n ∧ 0 ≤ b ∧ b < n := ⟨h.1, hG.bnd a b h⟩
theorem WayOk.rng {s g : Int} {bar w : List Int} (hG : GOk n G) (h : WayOk n G s g bar w) (h0 : 0 ≤ s) (h1 : s < n) : ∀ x ∈ w, 0 ≤ x ∧ x < n := by
  intro x m
  obtain ⟨i, hi, rfl⟩ := List.getElem_of_mem m
  cases i with
  | zero =>
    have := h.hd
    rw [List.getD_eq_getElem?_getD, List.getElem?_eq_getElem hi] at this
    have : w[0] = s := this
    rw [this]; exact ⟨h0, h1⟩
  | succ i =>
    have := ((h.edge i hi).lt hG).2.2
    rw [List.getD_eq_getElem?_getD, List.getElem?_eq_getElem hi] at this
    exact this
theorem getD_inj {w : List Int} (nd : w.Nodup) {i j : Nat} (hi : i < w.length) (hj : j < w.length) (e : w.getD i 0 = w.getD j 0) : i = j := by
  rw [List.getD_eq_getElem?_getD, List.getD_eq_getElem?_getD, List.getElem?_eq_getElem hi, List.getElem?_eq_getElem hj] at e
  exact (List.getElem_inj nd).mp e
theorem getD_memI {w : List Int} {i : Nat} (hi : i < w.length) : w.getD i 0 ∈ w := by
  rw [List.getD_eq_getElem?_getD, List.getElem?_eq_getElem hi]; exact List.getElem_mem hi
theorem WayOk.ring {v a b : Int} {w : List Int} (hG : GOk n G) (va : Ed G v a) (vb : Ed G v b) (ab : a ≠ b) (nab : ¬ Ed G a b) (h : WayOk n G a b (barR G v a b) w) : RingOk n G (v :: w) := by
  have hl := h.len
  have pos := List.length_pos_iff.mpr h.ne
  have hv : v ∉ w := fun m => h.av v m ((barR_mem va.1).mpr (.inl rfl))
  have hlast : w.getD (w.length - 1) 0 = b := h.lst
  have l1 : w.length ≠ 1 := fun e => by
    rw [e] at hlast
    exact ab (by rw [← h.hd, ← hlast])
  have l2 : w.length ≠ 2 := fun e => by
    have := h.edge 0 (by omega)
    rw [h.hd] at this
    rw [e] at hlast
    rw [hlast] at this
    exact nab this
  refine ⟨by simp; omega, by simp; omega, List.nodup_cons.mpr ⟨hv, h.nd⟩, fun x m => ?_, fun i j hji hi => ?_⟩
  · rcases List.mem_cons.mp m with rfl | m
    · exact ⟨va.1, (va.lt hG).2.1⟩
    · exact h.rng hG (va.lt hG).2.2.1 (va.lt hG).2.2.2 x m
  · obtain ⟨i, rfl⟩ : ∃ q, i = q + 1 := ⟨i - 1, by omega⟩
    rw [List.length_cons] at hi ⊢
    rw [List.getD_cons_succ]
    cases j with
    | zero =>
      rw [List.getD_cons_zero]
      constructor
      · intro e
        have hw := getD_memI (w := w) (i := i) (by omega)
        have nb := h.av _ hw
        rw [barR_mem va.1] at nb
        have : w.getD i 0 = a ∨ w.getD i 0 = b := by
          by_cases q1 : w.getD i 0 = a
          · exact .inl q1
          · by_cases q2 : w.getD i 0 = b
            · exact .inr q2
            · exact absurd (.inr ⟨hG.sym _ _ e, q1, q2⟩) nb
        rcases this with q | q
        · have := getD_inj h.nd (by omega) pos (q.trans h.hd.symm)
          omega
        · have := getD_inj h.nd (by omega) (show w.length - 1 < w.length by omega) (q.trans hlast.symm)
          omega
      · intro q
        have : i = 0 ∨ i = w.length - 1 := by omega
        rcases this with rfl | rfl
        · rw [h.hd]; exact hG.sym _ _ va
        · rw [hlast]; exact hG.sym _ _ vb
    | succ j =>
      rw [List.getD_cons_succ]
      constructor
      · intro e
        by_cases q : i = j + 1
        · left; omega
        · exact absurd (hG.sym _ _ e) (h.ind j i (by omega) (by omega))
      · intro q
        have : i = j + 1 := by omega
        subst this
        exact hG.sym _ _ (h.edge j (by omega))
end Gr
end PC
set_option Elab.async false
set_option linter.all false
set_option maxRecDepth 100000
namespace PC
open PySem
end PC
set_option Elab.async false
set_option linter.all false
set_option maxRecDepth 100000
namespace PC
open PySem
namespace Gr
variable {n : Nat} {G : List (List Int)}
def grpS (G : List (List Int)) (L : List Int) (p : Int) : List Int := isort (p :: (G.getD p.toNat []).filter fun other => memB other L)
theorem grpS_mem {L : List Int} {p x : Int} (h0 : 0 ≤ p) : x ∈ grpS G L p ↔ x = p ∨ (Ed G p x ∧ x ∈ L) := by
  unfold grpS
  rw [(isort_perm_m _).mem_iff, List.mem_cons, List.mem_filter, ed_iff h0]
  simp
structure Gs (n : Nat) (G : List (List Int)) (L : List Int) (gs : List (List Int)) : Prop where
  sub : ∀ x ∈ L, 0 ≤ x ∧ x < n
  nd : L.Nodup
  clq : ∀ g ∈ gs, Clq (Ed G) g
  rng : ∀ g ∈ gs, ∀ x ∈ g, 0 ≤ x ∧ x < n
  rem : ∀ h : Int, 0 ≤ h → h < n → h ∉ L → ∃ g ∈ gs, h ∈ g ∧ ∀ x ∈ L, Ed G h x → x ∈ g
  edge : ∀ h : Int, 0 ≤ h → h < n → h ∉ L → ∀ x, Ed G h x → ∃ g ∈ gs, h ∈ g ∧ x ∈ g
  few : gs.length + L.length ≤ n
theorem Gs.step {L : List Int} {gs gs' : List (List Int)} {p : Int} (hG : GOk n G) (h : Gs n G L gs) (mp : p ∈ L) (hs : ∀ g ∈ gs, g ∈ gs') (hk : ∃ g ∈ gs', ∀ x ∈ grpS G L p, x ∈ g) (hc : ∀ g ∈ gs', Clq (Ed G) g) (hr : ∀ g ∈ gs', ∀ x ∈ g, 0 ≤ x ∧ x < n) (hl : gs'.length ≤ gs.length + 1) : Gs n G (L.erase p) gs' := by
  have hp := h.sub p mp
  obtain ⟨g0, m0, s0⟩ := hk
  have hsub : ∀ x ∈ L.erase p, x ∈ L := fun x m => List.mem_of_mem_erase m
  have hout : ∀ x, x ∉ L.erase p → x = p ∨ x ∉ L := fun x m => by
    by_cases q : x = p
    · exact .inl q
    · exact .inr fun m2 => m ((List.mem_erase_of_ne q).mpr m2)
  refine ⟨fun x m => h.sub x (hsub x m), h.nd.sublist List.erase_sublist, hc, hr, fun z z0 z1 nz => ?_, fun z z0 z1 nz x ex => ?_, ?_⟩
  · rcases hout z nz with rfl | nz
    · exact ⟨g0, m0, s0 z ((grpS_mem hp.1).mpr (.inl rfl)), fun x mx ex => s0 x ((grpS_mem hp.1).mpr (.inr ⟨ex, hsub x mx⟩))⟩
    · obtain ⟨g, mg, hg, hx⟩ := h.rem z z0 z1 nz
      exact ⟨g, hs g mg, hg, fun x mx ex => hx x (hsub x mx) ex⟩
  · rcases hout z nz with rfl | nz
    · by_cases q : x ∈ L
      · exact ⟨g0, m0, s0 z ((grpS_mem hp.1).mpr (.inl rfl)), s0 x ((grpS_mem hp.1).mpr (.inr ⟨ex, q⟩))⟩
      · have hx := ex.lt hG
        obtain ⟨g, mg, h1, h2⟩ := h.edge x hx.2.2.1 hx.2.2.2 q z (hG.sym _ _ ex)
        exact ⟨g, hs g mg, h2, h1⟩
    · obtain ⟨g, mg, h1, h2⟩ := h.edge z z0 z1 nz x ex
      exact ⟨g, hs g mg, h1, h2⟩
  · have := h.few
    have h2 := List.length_pos_of_mem mp
    rw [List.length_erase_of_mem mp]
    omega
end Gr
end PC
set_option Elab.async false
set_option linter.all false
set_option maxRecDepth 100000
namespace PC
open PySem Tk
namespace Gr
variable {n : Nat} {G gs : List (List Int)}
def setG (gs : List (List Int)) (p : Int) : List Int := (iota 0 gs.length).filter fun i => decide (p ∈ sg gs i)
end Gr
end PC
set_option Elab.async false
set_option linter.all false
set_option maxRecDepth 100000
namespace PC
open PySem Tk
namespace Gr
variable {n : Nat} {G gs : List (List Int)} {o : List Int}
def most : List Int → Int
  | [] => 0
  | x :: r => maxL x r
def Ovl (h : List (Int × Int)) (i j : Int) : Prop := (h.getD i.toNat (0, 0)).1 ≤ (h.getD j.toNat (0, 0)).2 ∧ (h.getD j.toNat (0, 0)).1 ≤ (h.getD i.toNat (0, 0)).2
structure Expl (n : Nat) (G : List (List Int)) (h : List (Int × Int)) : Prop where
  len : h.length = n
  le : ∀ i : Int, 0 ≤ i → i < n → (h.getD i.toNat (0, 0)).1 ≤ (h.getD i.toNat (0, 0)).2
  ov : ∀ i j : Int, 0 ≤ i → i < n → 0 ≤ j → j < n → i ≠ j → (Ed G i j ↔ Ovl h i j)
end Gr
end PC
set_option Elab.async false
set_option linter.all false
set_option maxRecDepth 100000
namespace PC
open PySem Tk
namespace Gr
variable {n : Nat} {G : List (List Int)} {h : List (Int × Int)}
theorem argmin (f : Nat → Int) : ∀ (m : Nat), 0 < m → ∃ i, i < m ∧ ∀ j, j < m → f i ≤ f j
  | 0, h => by omega
  | 1, _ => ⟨0, by omega, fun j hj => by have : j = 0 := by omega
                                         subst this; exact Int.le_refl _⟩
  | m + 2, _ => by
    obtain ⟨i, hi, hm⟩ := argmin f (m + 1) (by omega)
    by_cases c : f i ≤ f (m + 1)
    · exact ⟨i, by omega, fun j hj => by
        by_cases e : j = m + 1
        · rw [e]; exact c
        · exact hm j (by omega)⟩
    · refine ⟨m + 1, by omega, fun j hj => ?_⟩
      by_cases e : j = m + 1
      · rw [e]; exact Int.le_refl _
      · have := hm j (by omega)
        omega
theorem Expl.pt (hG : GOk n G) (hE : Expl n G h) {x y z : Int} (xz : Ed G z x) (yz : Ed G z y) (xy : x ≠ y) (hx : (h.getD z.toNat (0, 0)).2 ≤ (h.getD x.toNat (0, 0)).2) (hy : (h.getD z.toNat (0, 0)).2 ≤ (h.getD y.toNat (0, 0)).2) : Ed G x y := by
  have a := xz.lt hG
  have b := yz.lt hG
  have nzx : z ≠ x := fun e => hG.irr x (by rw [e] at xz; exact xz)
  have nzy : z ≠ y := fun e => hG.irr y (by rw [e] at yz; exact yz)
  have o1 := (hE.ov z x a.1 a.2.1 a.2.2.1 a.2.2.2 nzx).mp xz
  have o2 := (hE.ov z y b.1 b.2.1 b.2.2.1 b.2.2.2 nzy).mp yz
  exact (hE.ov x y a.2.2.1 a.2.2.2 b.2.2.1 b.2.2.2 xy).mpr ⟨Int.le_trans o1.2 hy, Int.le_trans o2.2 hx⟩
theorem Expl.ring (hG : GOk n G) (hE : Expl n G h) {r : List Int} (hr : RingOk n G r) : False := by
  have hl := hr.len
  obtain ⟨i, hi, hm⟩ := argmin (fun i => (h.getD (r.getD i 0).toNat (0, 0)).2) r.length (by omega)
  have ad : ∀ i j, j < i → i < r.length → (i - j = 1 ∨ i - j = r.length - 1) → Ed G (r.getD i 0) (r.getD j 0) := fun i j h1 h2 h3 => (hr.ed i j h1 h2).mpr h3
  have na : ∀ i j, j < i → i < r.length → ¬ (i - j = 1 ∨ i - j = r.length - 1) → ¬ Ed G (r.getD i 0) (r.getD j 0) := fun i j h1 h2 h3 e => h3 ((hr.ed i j h1 h2).mp e)
  have fin : ∀ p q, p < q → q < r.length → Ed G (r.getD i 0) (r.getD p 0) → Ed G (r.getD i 0) (r.getD q 0) → ¬ (q - p = 1 ∨ q - p = r.length - 1) → False := fun p q pq hq ep eq nn => by
    refine na q p pq hq nn (hE.pt hG eq ep (fun e => ?_) (hm q hq) (hm p (by omega)))
    have := getD_inj hr.nd hq (by omega) e
    omega
  by_cases c0 : i = 0
  · subst c0
    exact fin 1 (r.length - 1) (by omega) (by omega) (hG.sym _ _ (ad 1 0 (by omega) (by omega) (by omega))) (hG.sym _ _ (ad (r.length - 1) 0 (by omega) (by omega) (by omega))) (by omega)
  · by_cases c1 : i = r.length - 1
    · exact fin 0 (i - 1) (by omega) (by omega) (ad i 0 (by omega) (by omega) (by omega)) (ad i (i - 1) (by omega) (by omega) (by omega)) (by omega)
    · exact fin (i - 1) (i + 1) (by omega) (by omega) (ad i (i - 1) (by omega) (by omega) (by omega)) (hG.sym _ _ (ad (i + 1) i (by omega) (by omega) (by omega))) (by omega)
end Gr
end PC
set_option Elab.async false
set_option linter.all false
set_option maxRecDepth 100000
namespace PC
open PySem Tk
end PC
set_option Elab.async false
set_option linter.all false
set_option maxRecDepth 100000
namespace PC
open PySem Tk
end PC
set_option Elab.async false
set_option linter.all false
set_option maxRecDepth 100000
namespace PC
open PySem Tk
end PC
set_option Elab.async false
set_option linter.all false
set_option maxRecDepth 100000
namespace PC
open PySem Tk
end PC
set_option Elab.async false
set_option linter.all false
set_option maxRecDepth 100000
namespace PC
open PySem Tk
namespace Gr
structure Pl (n : Nat) (s : List (Int × Int)) : Prop where
  bnd : ∀ p ∈ s, 0 ≤ p.1 ∧ p.1 < p.2 ∧ p.2 < n
  nd : s.Nodup
variable {n : Nat}
theorem Pl.len {s : List (Int × Int)} (h : Pl n s) (hn : n ≤ 24) : s.length ≤ 576 := by
  have h1 : (s.map fun p => p.1 * 24 + p.2).Nodup := by
    refine List.pairwise_map.mpr (h.nd.imp_of_mem fun {a b} ma mb ne e => ne ?_)
    have ha := h.bnd a ma
    have hb := h.bnd b mb
    obtain ⟨a1, a2⟩ := a
    obtain ⟨b1, b2⟩ := b
    simp only at ha hb e
    have e1 : a1 = b1 := by omega
    have e2 : a2 = b2 := by omega
    rw [e1, e2]
  have h2 := len_of_sub h1 (b := iota 0 576) fun x m => by
    obtain ⟨p, mp, rfl⟩ := List.mem_map.mp m
    have := h.bnd p mp
    exact iota_mem.mpr (by omega)
  rwa [List.length_map, iota_len] at h2
end Gr
end PC
set_option Elab.async false
set_option linter.all false
set_option maxRecDepth 100000
namespace PC
open PySem Tk
end PC
set_option Elab.async false
set_option linter.all false
set_option maxRecDepth 100000
namespace PC
open PySem Tk
end PC
set_option Elab.async false
set_option linter.all false
set_option maxRecDepth 100000
namespace PC
open PySem Tk
end PC
set_option Elab.async false
set_option linter.all false
set_option maxRecDepth 100000
namespace PC
open PySem
mutual
def Bt.lvs : Bt → List Int
  | .leaf i => [i]
  | .node _ ps _ => lvsB ps
def lvsB : List Bt → List Int
  | [] => []
  | t :: r => t.lvs ++ lvsB r
end
mutual
def Bt.dp : Bt → Nat
  | .leaf _ => 0
  | .node _ ps _ => dpB ps + 1
def dpB : List Bt → Nat
  | [] => 0
  | t :: r => max t.dp (dpB r)
end
mutual
def Bt.Fm : Bt → Prop
  | .leaf _ => True
  | .node w ps x => x = false ∧ (w = .any ∨ w = .row) ∧ 2 ≤ ps.length ∧ (w = .row → 3 ≤ ps.length) ∧ FmB ps
def FmB : List Bt → Prop
  | [] => True
  | t :: r => t.Fm ∧ FmB r
end
theorem Bt.ind {P : Bt → Prop} (hl : ∀ i, P (.leaf i)) (hn : ∀ w ps x, (∀ p ∈ ps, P p) → P (.node w ps x)) (t : Bt) : P t :=
  Bt.rec (motive_1 := P) (motive_2 := fun ps => ∀ p ∈ ps, P p) hl hn (fun p h => by cases h) (fun t r h1 h2 p h => by
    rcases List.mem_cons.mp h with rfl | h
    · exact h1
    · exact h2 p h) t
theorem FmB_iff : ∀ {ps : List Bt}, FmB ps ↔ ∀ p ∈ ps, p.Fm
  | [] => by simp [FmB]
  | t :: r => by simp [FmB, FmB_iff (ps := r)]
theorem dpB_le : ∀ {ps : List Bt} {p : Bt}, p ∈ ps → p.dp ≤ dpB ps
  | t :: r, p, h => by
    simp only [dpB]
    rcases List.mem_cons.mp h with rfl | h
    · omega
    · have := dpB_le h; omega
theorem dp_part {w : Wd} {ps : List Bt} {x : Bool} {p : Bt} (h : p ∈ ps) : p.dp < (Bt.node w ps x).dp := by
  have := dpB_le h
  simp only [Bt.dp]; omega
theorem dpB_lub {n : Nat} : ∀ {ps : List Bt}, (∀ p ∈ ps, p.dp ≤ n) → dpB ps ≤ n
  | [], _ => by simp [dpB]
  | t :: r, h => by
    simp only [dpB]
    have := h t List.mem_cons_self
    have := dpB_lub (ps := r) fun p m => h p (List.mem_cons_of_mem _ m)
    omega
theorem lvsB_le : ∀ {ps : List Bt} {p : Bt}, p ∈ ps → p.lvs.length ≤ (lvsB ps).length
  | t :: r, p, h => by
    simp only [lvsB, List.length_append]
    rcases List.mem_cons.mp h with rfl | h
    · omega
    · have := lvsB_le h; omega
theorem lvsB_append : ∀ {a b : List Bt}, lvsB (a ++ b) = lvsB a ++ lvsB b
  | [], b => by simp [lvsB]
  | t :: a, b => by simp [lvsB, lvsB_append (a := a)]
theorem Fm_node {w : Wd} {ps : List Bt} {x : Bool} : (Bt.node w ps x).Fm ↔ x = false ∧ (w = .any ∨ w = .row) ∧ 2 ≤ ps.length ∧ (w = .row → 3 ≤ ps.length) ∧ ∀ p ∈ ps, p.Fm := by
  simp only [Bt.Fm, FmB_iff]
/-- trees among them -/
theorem to_lvs (t : Tr) : (toBt t).lvs = t.leaves ∧ (toBt t).dp = t.dep ∧ ((toBt t).Fm ↔ t.Form) := by
  induction t using Tr.ind with
  | hl i => simp [toBt, Bt.lvs, Bt.dp, Tr.dep, Bt.Fm, Tr.Form]
  | hn w ps ih =>
    have h1 : lvsB (toBts ps) = leavesL ps := by
      induction ps with
      | nil => simp [toBts, lvsB]
      | cons p r ih2 =>
        simp only [toBts, lvsB, leavesL_cons, (ih p List.mem_cons_self).1, ih2 fun q m => ih q (List.mem_cons_of_mem _ m)]
    have h2 : dpB (toBts ps) = depL ps := by
      clear h1
      induction ps with
      | nil => simp [toBts, dpB, depL]
      | cons p r ih2 =>
        simp only [toBts, dpB, depL, (ih p List.mem_cons_self).2.1, ih2 fun q m => ih q (List.mem_cons_of_mem _ m)]
    have h3 : (∀ p ∈ toBts ps, p.Fm) ↔ ∀ p ∈ ps, p.Form := by
      rw [toBts_map]
      simp only [List.mem_map, forall_exists_index, and_imp, forall_apply_eq_imp_iff₂]
      exact ⟨fun h p m => (ih p m).2.2.mp (h p m), fun h p m => (ih p m).2.2.mpr (h p m)⟩
    refine ⟨by simp only [toBt, Bt.lvs, leaves_node, h1], by simp only [toBt, Bt.dp, Tr.dep, h2], ?_⟩
    rw [toBt, Fm_node, Form_node, h3, toBts_map, List.length_map]
    cases w <;> simp
theorem of_Fm (t : Bt) : t.Fm → ∃ t', toBt t' = t := by
  induction t using Bt.ind with
  | hl i => intro _; exact ⟨.leaf i, by rw [toBt]⟩
  | hn w ps x ih =>
    intro h
    obtain ⟨rfl, hw, z1, z2, hp⟩ := Fm_node.mp h
    have : ∃ qs : List Tr, toBts qs = ps := by
      clear h z1 z2
      induction ps with
      | nil => exact ⟨[], by rw [toBts]⟩
      | cons p r ih2 =>
        obtain ⟨q, hq⟩ := ih p List.mem_cons_self (hp p List.mem_cons_self)
        obtain ⟨qs, hqs⟩ := ih2 (fun a m => ih a (List.mem_cons_of_mem _ m)) fun a m => hp a (List.mem_cons_of_mem _ m)
        exact ⟨q :: qs, by rw [toBts, hq, hqs]⟩
    obtain ⟨qs, hqs⟩ := this
    rcases hw with rfl | rfl
    · exact ⟨.node true qs, by rw [toBt, hqs]; rfl⟩
    · exact ⟨.node false qs, by rw [toBt, hqs]; rfl⟩
theorem lay_bt (t : Bt) : (eBt t).canLay0 = true := by
  induction t using Bt.ind with
  | hl i => rw [eBt]; simp [PyData.canLay0]
  | hn w ps x ih =>
    rw [eBt, eBts_map]
    have h1 : PyData.canLayAll0 (ps.map eBt) = true := by
      induction ps with
      | nil => simp [PyData.canLayAll0]
      | cons p r ih2 =>
        simp only [List.map_cons, PyData.canLayAll0, ih p List.mem_cons_self, ih2 fun q m => ih q (List.mem_cons_of_mem _ m), Bool.and_self]
    cases x <;> simp [PyData.canLay0, PyData.canLayAll0, q_Q.lay w, h1, moreD]
theorem ddep_bt (t : Bt) : (eBt t).depth ≤ 2 * t.dp + 1 := by
  induction t using Bt.ind with
  | hl i => rw [eBt]; simp [PyData.depth]
  | hn w ps x ih =>
    rw [eBt, eBts_map]
    have h1 : PyData.depthAll (ps.map eBt) ≤ 2 * dpB ps + 1 := by
      induction ps with
      | nil => simp [PyData.depthAll]
      | cons p r ih2 =>
        have a := ih p List.mem_cons_self
        have b := ih2 fun q m => ih q (List.mem_cons_of_mem _ m)
        simp only [List.map_cons, PyData.depthAll, dpB]
        omega
    have h2 := q_Q.dep w
    cases x
    · simp only [PyData.depth, PyData.depthAll, Bt.dp, moreD, Bool.false_eq_true, if_false]
      omega
    · simp only [PyData.depth, PyData.depthAll, Bt.dp, moreD, if_true]
      omega
theorem eqNil_bt {l : List Bt} (h : ∀ t ∈ l, t.dp ≤ 30) : eqNil eBt l = .ok l.isEmpty := by
  have h1 : PyData.canLayAll0 (l.map eBt) = true := by
    clear h
    induction l with
    | nil => simp [PyData.canLayAll0]
    | cons p r ih => simp only [List.map_cons, PyData.canLayAll0, lay_bt, ih, Bool.and_self]
  have h2 : PyData.depthAll (l.map eBt) ≤ 62 := by
    clear h1
    induction l with
    | nil => simp [PyData.depthAll]
    | cons p r ih =>
      have a := ddep_bt p
      have b := h p List.mem_cons_self
      have c := ih fun q m => h q (List.mem_cons_of_mem _ m)
      simp only [List.map_cons, PyData.depthAll]
      omega
  unfold eqNil
  rw [if_pos]
  simp only [SeqAt.shaped, eL, PyData.canLay0, PyData.depth, h1, Bool.true_and]
  exact decide_eq_true (by omega)
open Classical in
theorem has_formB : ∀ {k : Nat} {t : Bt}, t.dp + 2 ≤ k → f_has_form_1 k t = .ok (decide t.Fm) := by
  intro k
  induction k with
  | zero => intro t h; omega
  | succ k ih =>
    intro t h
    obtain ⟨k, rfl⟩ : ∃ q, k = q + 1 := ⟨k - 1, by omega⟩
    rw [f_has_form_1]
    cases t with
    | leaf i =>
      rw [decide_eq_true (show (Bt.leaf i).Fm by simp [Bt.Fm])]
      rfl
    | node w ps x =>
      have e1 : f_is_thing_2 (k + 1) (.node w ps x) = .ok false := rfl
      have e3 : f_is_thing_3 (k + 1) ps = .ok false := rfl
      have hp : mapR (fun part => f_has_form_1 (k + 1) part) ps = .ok (ps.map fun p => decide p.Fm) := mapR_ok fun p m => ih (by have := dp_part (w := w) (x := x) m; omega)
      have ha : (ps.map fun p => decide p.Fm).all id = true ↔ ∀ p ∈ ps, p.Fm := by
        rw [List.all_eq_true]
        simp
      simp only [e1, cnd_ok, Bool.false_eq_true, if_false, Bt.len, Bt.word, Bt.parts, bnd_ok, e3, hp]
      cases x with
      | true =>
        rw [decide_eq_false (fun q : (Bt.node w ps true).Fm => by have := (Fm_node.mp q).1; cases this)]
        rfl
      | false =>
        by_cases hw : w = .any ∨ w = .row
        · simp only [Bool.false_eq_true, if_false, decide_true, Bool.not_true, decide_eq_true hw, cnd_ok]
          by_cases h2 : ps.length < 2
          · rw [decide_eq_true (show (ps.length : Int) < 2 by omega), decide_eq_false (fun q : (Bt.node w ps false).Fm => by have := (Fm_node.mp q).2.2.1; omega)]
            rfl
          · rw [decide_eq_false (show ¬ (ps.length : Int) < 2 by omega)]
            simp only [Bool.false_eq_true, if_false]
            by_cases hr : w = .row
            · rw [decide_eq_true hr]
              simp only [if_true, cnd_ok]
              by_cases h3 : ps.length < 3
              · rw [decide_eq_true (show (ps.length : Int) < 3 by omega), decide_eq_false (fun q : (Bt.node w ps false).Fm => by have := (Fm_node.mp q).2.2.2.1 hr; omega)]
                rfl
              · rw [decide_eq_false (show ¬ (ps.length : Int) < 3 by omega)]
                simp only [Bool.false_eq_true, if_false, letR_ok, run_rt]
                congr 1
                rw [Bool.eq_iff_iff, ha, decide_eq_true_eq, Fm_node]
                exact ⟨fun q => ⟨rfl, hw, by omega, fun _ => by omega, q⟩, fun q => q.2.2.2.2⟩
            · rw [decide_eq_false hr]
              simp only [Bool.false_eq_true, if_false, cnd_ok, letR_ok, run_rt]
              congr 1
              rw [Bool.eq_iff_iff, ha, decide_eq_true_eq, Fm_node]
              exact ⟨fun q => ⟨rfl, hw, by omega, fun q => absurd q hr, q⟩, fun q => q.2.2.2.2⟩
        · rw [decide_eq_false (fun q : (Bt.node w ps false).Fm => hw (Fm_node.mp q).2.1)]
          simp only [Bool.false_eq_true, if_false, decide_true, Bool.not_true, decide_eq_false hw, Bool.not_false, if_true, cnd_ok]
          rfl
theorem listed_loopB {k : Nat} {ρ : Type} : ∀ {ps : List Bt} {acc : List Int}, (∀ p ∈ ps, f_listed_1 k p = .ok p.lvs) → acc.length + (lvsB ps).length ≤ 1000000 → (forL ps acc fun part (s1 : List Int) => letR (f_listed_1 k part) fun t2 => extL s1 t2 fun found1 => (Fl.nx found1 : Fl (List Int) ρ)) = .nx (acc ++ lvsB ps)
  | [], acc, _, _ => by simp [lvsB]
  | p :: r, acc, h, hl => by
    rw [forL_cons, h p List.mem_cons_self]
    simp only [lvsB, List.length_append] at hl
    simp only [letR_ok]
    rw [extL_ok (by omega)]
    simp only
    rw [listed_loopB (fun q m => h q (List.mem_cons_of_mem _ m)) (by simp; omega)]
    simp [lvsB]
theorem listedB : ∀ {k : Nat} {t : Bt}, t.dp + 2 ≤ k → t.lvs.length ≤ 1000000 → f_listed_1 k t = .ok t.lvs := by
  intro k
  induction k with
  | zero => intro t h; omega
  | succ k ih =>
    intro t h hl
    obtain ⟨k, rfl⟩ : ∃ q, k = q + 1 := ⟨k - 1, by omega⟩
    cases t with
    | leaf i => rfl
    | node w ps x =>
      have hp : ∀ p ∈ ps, f_listed_1 (k + 1) p = .ok p.lvs := fun p m => by
        have := dp_part (w := w) (x := x) m
        refine ih (by omega) ?_
        have := lvsB_le m
        simp only [Bt.lvs] at hl
        omega
      have e1 : f_is_thing_2 (k + 1) (.node w ps x) = .ok false := rfl
      rw [f_listed_1]
      simp only [e1, cnd_ok, Bool.false_eq_true, if_false, Bt.parts, bnd_ok, letR_ok, listed_loopB hp (acc := []) (by simpa [Bt.lvs] using hl), seq_nx, run_rt, List.nil_append, Bt.lvs]
theorem things_loopB {k : Nat} {ρ : Type} : ∀ {ps : List Bt} {acc : List Int}, (∀ p ∈ ps, f_law_things_1 k p = .ok p.lvs) → acc.length + (lvsB ps).length ≤ 1000000 → (forL ps acc fun part (s2 : List Int) => letR ((f_law_things_1 k part).bind fun t2 => catL s2 t2) fun found1 => (Fl.nx found1 : Fl (List Int) ρ)) = .nx (acc ++ lvsB ps)
  | [], acc, _, _ => by simp [lvsB]
  | p :: r, acc, h, hl => by
    rw [forL_cons, h p List.mem_cons_self]
    simp only [lvsB, List.length_append] at hl
    simp only [bnd_ok]
    rw [catL_ok (by omega)]
    simp only [letR_ok]
    rw [things_loopB (fun q m => h q (List.mem_cons_of_mem _ m)) (by simp; omega)]
    simp [lvsB]
theorem law_thingsB : ∀ {k : Nat} {t : Bt}, t.dp + 1 ≤ k → t.lvs.length ≤ 1000000 → f_law_things_1 k t = .ok t.lvs := by
  intro k
  induction k with
  | zero => intro t h; omega
  | succ k ih =>
    intro t h hl
    cases t with
    | leaf i => rfl
    | node w ps x =>
      have hp : ∀ p ∈ ps, f_law_things_1 k p = .ok p.lvs := fun p m => by
        have := dp_part (w := w) (x := x) m
        refine ih (by omega) ?_
        have := lvsB_le m
        simp only [Bt.lvs] at hl
        omega
      rw [f_law_things_1]
      simp only [Bt.isLeaf, cnd_ok, Bool.false_eq_true, if_false, Bt.parts, bnd_ok, letR_ok, things_loopB hp (acc := []) (by simpa [Bt.lvs] using hl), seq_nx, run_rt, List.nil_append, Bt.lvs]
open Classical in
theorem check_treeB {k : Nat} {n : Int} {t : Bt} (h : t.dp + 3 ≤ k) (hl : t.lvs.length ≤ 1000000) : f_check_tree_1 k n t = if (1 ≤ n ∧ n ≤ 24) ∧ t.Fm ∧ isort t.lvs = iota 0 n.toNat then .ok t else .ex "InvalidTree" := by
  obtain ⟨k, rfl⟩ : ∃ q, k = q + 2 := ⟨k - 2, by omega⟩
  rw [f_check_tree_1]
  have es : f_is_size (k + 1) n = .ok (decide (1 ≤ n ∧ n ≤ 24)) := by
    rw [f_is_size]
    simp only [letR_ok, run_rt]
    congr 1
    rw [Bool.eq_iff_iff]
    simp
  rw [es, has_formB (show t.dp + 2 ≤ k + 1 by omega), listedB (show t.dp + 2 ≤ k + 1 by omega) hl]
  by_cases c1 : 1 ≤ n ∧ n ≤ 24
  · rw [rng_ok (by omega) (by omega) (by omega) (by omega), Int.sub_zero]
    by_cases c2 : t.Fm
    · by_cases c3 : isort t.lvs = iota 0 n.toNat
      · rw [if_pos ⟨c1, c2, c3⟩, decide_eq_true c1, decide_eq_true c2]
        simp only [bnd_ok, Bool.not_true, Bool.false_eq_true, if_false, decide_eq_true c3, cnd_ok]
        rfl
      · rw [if_neg (fun q => c3 q.2.2), decide_eq_true c1, decide_eq_true c2]
        simp only [bnd_ok, Bool.not_true, Bool.false_eq_true, if_false, decide_eq_false c3, Bool.not_false, cnd_ok, if_true]
        rfl
    · rw [if_neg (fun q => c2 q.2.1), decide_eq_true c1, decide_eq_false c2]
      rfl
  · rw [if_neg (fun q => c1 q.1), decide_eq_false c1]
    rfl
theorem eqBt_self {t : Bt} (hf : t.Fm) (hd : t.dp ≤ 31) : eqBtB t t = .ok true := by
  obtain ⟨t', rfl⟩ := of_Fm t hf
  have hd' : t'.dep ≤ 31 := by have := (to_lvs t').2.1; omega
  unfold eqBtB
  rw [← co_trB, shaped_tr hd', (eqv_tr t' t').mpr rfl]
  rfl
end PC
namespace K03
open PySem PySem.Spec PyProof.Rows L2 PC
def ir_is_size : List S := [.ret (.cmp (.int 1) (.more .le (.v 0) (.one .le (.int 24))))]
def N_is_size : List Str := ["n"]
def ir_is_thing : List S := [.ret (.bi .isInt (.cons (.v 0) .nil))]
def N_is_thing : List Str := ["tree"]
def ir_listed : List S := [.ite (.call "is_thing" (.cons (.v 0) .nil)) [.ret (.lst (.cons (.v 0) .nil))] [], .asg (.n 1) (.lst .nil), .for_ (.n 2) (.e (.ix (.v 0) (.int 1))) [.ext 1 (.call "listed" (.cons (.v 2) .nil))], .ret (.v 1)]
def N_listed : List Str := ["tree", "found", "part"]
def ir_has_form : List S := [.ite (.call "is_thing" (.cons (.v 0) .nil)) [.ret (.bl true)] [], .ite (.or (.cmp (.bi .len (.cons (.v 0) .nil)) (.one .ne (.int 2))) (.or (.bi (.ninC [.str "any", .str "row"]) (.cons (.ix (.v 0) (.int 0)) .nil)) (.or (.call "is_thing" (.cons (.ix (.v 0) (.int 1)) .nil)) (.bi .isStr (.cons (.ix (.v 0) (.int 1)) .nil))))) [.ret (.bl false)] [], .ite (.or (.cmp (.bi .len (.cons (.ix (.v 0) (.int 1)) .nil)) (.one .lt (.int 2))) (.and (.cmp (.ix (.v 0) (.int 0)) (.one .eq (.str "row"))) (.cmp (.bi .len (.cons (.ix (.v 0) (.int 1)) .nil)) (.one .lt (.int 3))))) [.ret (.bl false)] [], .ret (.bi .all (.cons (.lc [1] (.n 1) (.e (.ix (.v 0) (.int 1))) .no (.call "has_form" (.cons (.v 1) .nil))) .nil))]
def N_has_form : List Str := ["tree", "part"]
def ir_check_tree : List S := [.ite (.or (.not (.call "is_size" (.cons (.v 0) .nil))) (.or (.not (.call "has_form" (.cons (.v 1) .nil))) (.cmp (.bi .sorted (.cons (.call "listed" (.cons (.v 1) .nil)) .nil)) (.one .ne (.bi .listR1 (.cons (.v 0) .nil)))))) [.raise "InvalidTree"] [], .ret (.v 1)]
def N_check_tree : List Str := ["n", "tree"]
def ir_things_of : List S := [.ite (.not (.call "has_form" (.cons (.v 0) .nil))) [.raise "InvalidTree"] [], .asg (.n 1) (.bi .tuple (.cons (.bi .sorted (.cons (.call "listed" (.cons (.v 0) .nil)) .nil)) .nil)), .ite (.or (.cmp (.ix (.v 1) (.int 0)) (.one .lt (.int 0))) (.cmp (.bi .lenSet (.cons (.v 1) .nil)) (.one .lt (.bi .len (.cons (.v 1) .nil))))) [.raise "InvalidTree"] [], .ret (.v 1)]
def N_things_of : List Str := ["tree", "found"]
def ir__law_cell : List S := [.ite (.cmp (.v 1) (.one .lt (.bi .len (.cons (.v 0) .nil)))) [.ret (.ix (.v 0) (.v 1))] [], .ret (.int 0)]
def N__law_cell : List Str := ["_law_script", "_law_k"]
def ir__law_digits : List S := [.asg (.n 2) (.lst .nil), .for_ (.n 3) (.e (.v 1)) [.app 2 (.op .mod (.bi .int (.cons (.v 0) .nil)) (.v 3)), .asg (.n 0) (.op .div (.v 0) (.v 3))], .ret (.v 2)]
def N__law_digits : List Str := ["_law_cell_here", "_law_sizes", "_law_row", "_law_size"]
def ir__law_rich : List S := [.ite (.cmp (.v 0) (.one .ge (.op .pow (.int 10) (.int 18)))) [.ret (.v 0)] [], .asg (.n 1) (.op .mod (.bi .int (.cons (.op .add (.op .mul (.v 0) (.int 48271)) (.int 11)) .nil)) (.int 2147483647)), .asg (.n 2) (.op .mod (.bi .int (.cons (.op .add (.op .add (.op .mul (.v 1) (.int 69621)) (.op .div (.v 0) (.int 7))) (.int 5)) .nil)) (.int 2147483629)), .ret (.op .add (.op .mul (.v 1) (.int 2147483629)) (.v 2))]
def N__law_rich : List Str := ["_law_cell_here", "_law_low", "_law_high"]
def ir__law_order : List S := [.asg (.n 2) (.lc [6] (.n 6) (.r1 (.v 1)) .no (.v 6)), .asg (.n 3) (.call "_law_rich" (.cons (.v 0) .nil)), .asg (.n 4) (.lst .nil), .for_ (.n 5) (.r1 (.v 1)) [.appPop 4 2 (.op .mod (.bi .int (.cons (.v 3) .nil)) (.op .sub (.v 1) (.v 5))), .asg (.n 3) (.op .div (.v 3) (.op .sub (.v 1) (.v 5))), .ite (.cmp (.v 3) (.one .eq (.int 0))) [.asg (.n 3) (.call "_law_rich" (.cons (.op .add (.op .add (.v 0) (.v 5)) (.int 1)) .nil))] []], .ret (.bi .tuple (.cons (.v 4) .nil))]
def N__law_order : List Str := ["_law_cell_here", "_law_n", "_law_left", "_law_rest", "_law_order_here", "_law_k", "_law_thing"]
def ir__law_things : List S := [.ite (.bi .isInt (.cons (.v 0) .nil)) [.ret (.lst (.cons (.v 0) .nil))] [], .asg (.n 1) (.lst .nil), .for_ (.n 2) (.e (.ix (.v 0) (.int 1))) [.asg (.n 1) (.op .add (.v 1) (.call "_law_things" (.cons (.v 2) .nil)))], .ret (.v 1)]
def N__law_things : List Str := ["_law_tree_here", "_law_found", "_law_part"]
def ir__law_tree : List S := [.asg (.n 2) (.bi .list (.cons (.call "_law_order" (.cons (.v 0) (.cons (.v 1) .nil))) .nil)), .asg (.n 3) (.call "_law_rich" (.cons (.op .add (.op .div (.v 0) (.int 3)) (.int 7)) .nil)), .for_ (.n 4) (.r1 (.int 30)) [.ite (.cmp (.bi .len (.cons (.v 2) .nil)) (.one .lt (.int 2))) [.brk] [], .asg (.n 5) (.op .add (.int 2) (.op .mod (.bi .int (.cons (.v 3) .nil)) (.int 4))), .ite (.cmp (.op .mod (.bi .int (.cons (.op .div (.v 3) (.int 1024)) .nil)) (.int 8)) (.one .eq (.int 5))) [.asg (.n 5) (.int 24)] [], .asg (.n 6) (.op .mod (.bi .int (.cons (.op .div (.v 3) (.int 4)) .nil)) (.bi .len (.cons (.v 2) .nil))), .asg (.n 7) (.sl (.v 2) (.yes (.v 6)) (.yes (.op .add (.v 6) (.v 5)))), .ite (.cmp (.bi .len (.cons (.v 7) .nil)) (.one .gt (.int 1))) [.asg (.n 8) (.str "any"), .ite (.and (.cmp (.bi .len (.cons (.v 7) .nil)) (.one .gt (.int 2))) (.cmp (.op .mod (.bi .int (.cons (.op .div (.v 3) (.int 64)) .nil)) (.int 2)) (.one .eq (.int 1)))) [.asg (.n 8) (.str "row")] [], .asg (.n 2) (.op .add (.op .add (.sl (.v 2) .no (.yes (.v 6))) (.lst (.cons (.tup (.cons (.v 8) (.cons (.bi .tuple (.cons (.v 7) .nil)) .nil))) .nil))) (.sl (.v 2) (.yes (.op .add (.v 6) (.v 5))) .no))] [], .asg (.n 3) (.op .add (.op .add (.op .div (.v 3) (.int 5)) (.op .mul (.int 1000003) (.v 4))) (.int 17))], .ite (.cmp (.bi .len (.cons (.v 2) .nil)) (.one .gt (.int 1))) [.asg (.n 2) (.lst (.cons (.tup (.cons (.str "any") (.cons (.bi .tuple (.cons (.v 2) .nil)) .nil))) .nil))] [], .ret (.ix (.v 2) (.int 0))]
def N__law_tree : List Str := ["_law_cell_here", "_law_n", "_law_parts", "_law_rest", "_law_step", "_law_size", "_law_at", "_law_chosen", "_law_word"]
def ir__law_has_form : List S := [.ite (.bi .isInt (.cons (.v 0) .nil)) [.ret (.bl true)] [], .ite (.or (.cmp (.bi .len (.cons (.v 0) .nil)) (.one .ne (.int 2))) (.or (.cmp (.ix (.v 0) (.int 0)) (.one .nin (.lst (.cons (.str "any") (.cons (.str "row") .nil))))) (.cmp (.bi .len (.cons (.ix (.v 0) (.int 1)) .nil)) (.one .lt (.op .add (.int 2) (.bi .int (.cons (.cmp (.ix (.v 0) (.int 0)) (.one .eq (.str "row"))) .nil))))))) [.ret (.bl false)] [], .ret (.cmp (.lc [1] (.n 1) (.e (.ix (.v 0) (.int 1))) (.yes (.not (.call "_law_has_form" (.cons (.v 1) .nil)))) (.v 1)) (.one .eq (.lst .nil)))]
def N__law_has_form : List Str := ["_law_tree_here", "_law_part"]
def ir__law_bent : List S := [.asg (.n 2) (.op .mod (.bi .int (.cons (.v 1) .nil)) (.int 8)), .ite (.bi .isInt (.cons (.v 0) .nil)) [.ret (.ix (.lst (.cons (.op .add (.v 0) (.int 1)) (.cons (.op .sub (.v 0) (.int 1)) (.cons (.tup (.cons (.str "any") (.cons (.tup (.cons (.v 0) .nil)) .nil))) (.cons (.tup (.cons (.str "any") (.cons (.tup (.cons (.v 0) (.cons (.v 0) .nil))) .nil))) (.cons (.v 0) (.cons (.int 0) (.cons (.tup (.cons (.str "row") (.cons (.tup (.cons (.v 0) (.cons (.op .add (.v 0) (.int 1)) .nil))) .nil))) (.cons (.bi .neg (.cons (.int 1) .nil)) .nil))))))))) (.v 2))] [], .ite (.cmp (.v 2) (.one .eq (.int 0))) [.ret (.tup (.cons (.ix (.lst (.cons (.str "all") (.cons (.str "") (.cons (.str "Any") (.cons (.str "row") (.cons (.str "any") .nil)))))) (.op .mod (.bi .int (.cons (.op .div (.v 1) (.int 8)) .nil)) (.int 5))) (.cons (.ix (.v 0) (.int 1)) .nil)))] [], .ite (.cmp (.v 2) (.one .eq (.int 1))) [.ret (.tup (.cons (.ix (.v 0) (.int 0)) (.cons (.sl (.ix (.v 0) (.int 1)) (.yes (.int 1)) .no) .nil)))] [], .ite (.cmp (.v 2) (.one .eq (.int 2))) [.ret (.tup (.cons (.ix (.v 0) (.int 0)) (.cons (.op .add (.ix (.v 0) (.int 1)) (.sl (.ix (.v 0) (.int 1)) .no (.yes (.int 1)))) .nil)))] [], .ite (.and (.cmp (.v 2) (.one .eq (.int 3))) (.cmp (.op .mod (.bi .int (.cons (.op .div (.v 1) (.int 8)) .nil)) (.int 3)) (.one .eq (.int 0)))) [.ret (.tup (.cons (.ix (.v 0) (.int 0)) (.cons (.ix (.v 0) (.int 1)) (.cons (.tup .nil) .nil))))] [], .asg (.n 3) (.op .mod (.bi .int (.cons (.op .div (.v 1) (.int 8)) .nil)) (.bi .len (.cons (.ix (.v 0) (.int 1)) .nil))), .ret (.tup (.cons (.ix (.v 0) (.int 0)) (.cons (.op .add (.op .add (.sl (.ix (.v 0) (.int 1)) .no (.yes (.v 3))) (.tup (.cons (.call "_law_bent" (.cons (.ix (.ix (.v 0) (.int 1)) (.v 3)) (.cons (.op .div (.v 1) (.int 64)) .nil))) .nil))) (.sl (.ix (.v 0) (.int 1)) (.yes (.op .add (.v 3) (.int 1))) .no)) .nil)))]
def N__law_bent : List Str := ["_law_tree_here", "_law_rest", "_law_kind", "_law_at"]
def ir_law : List S := [.asg (.n 1) (.call "_law_digits" (.cons (.call "_law_rich" (.cons (.call "_law_cell" (.cons (.v 0) (.cons (.int 0) .nil))) .nil)) (.cons (.lst (.cons (.int 24) (.cons (.int 2) (.cons (.int 4) (.cons (.int 4) .nil))))) .nil))), .asg (.n 2) (.op .add (.int 1) (.ix (.v 1) (.int 0))), .asg (.n 3) (.call "_law_tree" (.cons (.call "_law_cell" (.cons (.v 0) (.cons (.int 1) .nil))) (.cons (.v 2) .nil))), .ite (.cmp (.call "things_of" (.cons (.v 3) .nil)) (.one .ne (.bi .tuple (.cons (.lc [7] (.n 7) (.r1 (.v 2)) .no (.v 7)) .nil)))) [.ret (.bl false)] [], .asg (.n 4) (.v 2), .ite (.cmp (.ix (.v 1) (.int 1)) (.one .eq (.int 1))) [.ite (.cmp (.ix (.v 1) (.int 2)) (.one .eq (.int 0))) [.asg (.n 4) (.ix (.lst (.cons (.op .add (.v 2) (.int 1)) (.cons (.op .sub (.v 2) (.int 1)) (.cons (.int 25) (.cons (.int 0) .nil))))) (.ix (.v 1) (.int 3)))] [.ite (.and (.cmp (.ix (.v 1) (.int 2)) (.one .eq (.int 1))) (.cmp (.ix (.v 1) (.int 3)) (.one .eq (.int 0)))) [.asg (.n 4) (.int 25), .asg (.n 3) (.tup (.cons (.str "any") (.cons (.bi .tuple (.cons (.lc [7] (.n 7) (.r1 (.int 25)) .no (.v 7)) .nil)) .nil)))] [.asg (.n 3) (.call "_law_bent" (.cons (.v 3) (.cons (.call "_law_rich" (.cons (.call "_law_cell" (.cons (.v 0) (.cons (.int 2) .nil))) .nil)) .nil)))]]] [], .asg (.n 5) (.and (.call "_law_has_form" (.cons (.v 3) .nil)) (.and (.cmp (.int 1) (.one .le (.v 4))) (.cmp (.v 4) (.one .le (.int 24))))), .asg (.n 5) (.and (.v 5) (.cmp (.bi .sorted (.cons (.call "_law_things" (.cons (.v 3) .nil)) .nil)) (.one .eq (.lc [7] (.n 7) (.r1 (.v 4)) .no (.v 7))))), .try_ [.ret (.and (.cmp (.call "check_tree" (.cons (.v 4) (.cons (.v 3) .nil))) (.one .eq (.v 3))) (.v 5))] ["UnpartedError", "InvalidTable", "InvalidTree"] "InvalidTree" (some 6) [.ret (.and (.not (.v 5)) (.and (.isx 6 "UnpartedError") (.not (.isx 6 "InvalidTable"))))]]
def N_law : List Str := ["_law_script", "_law_d", "_law_n", "_law_tree_here", "_law_size", "_law_good", "e", "_law_thing"]
def g : G := ⟨[], [(("is_size" : Str), (1 : Nat)), (("is_thing" : Str), (1 : Nat)), (("listed" : Str), (1 : Nat)), (("has_form" : Str), (1 : Nat)), (("check_tree" : Str), (2 : Nat)), (("things_of" : Str), (1 : Nat)), (("_law_cell" : Str), (2 : Nat)), (("_law_digits" : Str), (2 : Nat)), (("_law_rich" : Str), (1 : Nat)), (("_law_order" : Str), (2 : Nat)), (("_law_things" : Str), (1 : Nat)), (("_law_tree" : Str), (2 : Nat)), (("_law_has_form" : Str), (1 : Nat)), (("_law_bent" : Str), (2 : Nat)), (("law" : Str), (1 : Nat))], [("MOST_THINGS", 24)], [("WORDS", [.str "any", .str "row"])], ["UnpartedError", "InvalidTable", "InvalidTree"], true, [], none⟩
def tab : List (Str × Fn) := [(("is_size" : Str), (⟨1, 1, ir_is_size⟩ : Fn)), (("is_thing" : Str), (⟨1, 1, ir_is_thing⟩ : Fn)), (("listed" : Str), (⟨1, 3, ir_listed⟩ : Fn)), (("has_form" : Str), (⟨1, 2, ir_has_form⟩ : Fn)), (("check_tree" : Str), (⟨2, 2, ir_check_tree⟩ : Fn)), (("things_of" : Str), (⟨1, 2, ir_things_of⟩ : Fn)), (("_law_cell" : Str), (⟨2, 2, ir__law_cell⟩ : Fn)), (("_law_digits" : Str), (⟨2, 4, ir__law_digits⟩ : Fn)), (("_law_rich" : Str), (⟨1, 3, ir__law_rich⟩ : Fn)), (("_law_order" : Str), (⟨2, 7, ir__law_order⟩ : Fn)), (("_law_things" : Str), (⟨1, 3, ir__law_things⟩ : Fn)), (("_law_tree" : Str), (⟨2, 9, ir__law_tree⟩ : Fn)), (("_law_has_form" : Str), (⟨1, 2, ir__law_has_form⟩ : Fn)), (("_law_bent" : Str), (⟨2, 4, ir__law_bent⟩ : Fn)), (("law" : Str), (⟨1, 8, ir_law⟩ : Fn))]
def T : Str → Option Fn := fun f => tab.lookup f
abbrev prog : Program := PySem.Challenge.pw_unpartedrows_k03_trees
def top (i : Nat) : Stmt := prog.main.body.getD i (.Pass ⟨0, 0, 0, 0⟩)
abbrev s_is_size : Stmt := top 6
abbrev s_is_thing : Stmt := top 9
abbrev s_listed : Stmt := top 10
abbrev s_has_form : Stmt := top 11
abbrev s_check_tree : Stmt := top 12
abbrev s_things_of : Stmt := top 13
abbrev s__law_cell : Stmt := top 15
abbrev s__law_digits : Stmt := top 16
abbrev s__law_rich : Stmt := top 17
abbrev s__law_order : Stmt := top 18
abbrev s__law_things : Stmt := top 19
abbrev s__law_tree : Stmt := top 20
abbrev s__law_has_form : Stmt := top 21
abbrev s__law_bent : Stmt := top 22
abbrev s_law : Stmt := top 23
def d_is_size : He.DefD := ⟨("is_size", none), "is_size", "is_size", defArgs s_is_size, defBody s_is_size, defScope s_is_size, [], []⟩
def d_is_thing : He.DefD := ⟨("is_thing", none), "is_thing", "is_thing", defArgs s_is_thing, defBody s_is_thing, defScope s_is_thing, [], []⟩
def d_listed : He.DefD := ⟨("listed", none), "listed", "listed", defArgs s_listed, defBody s_listed, defScope s_listed, [], []⟩
def d_has_form : He.DefD := ⟨("has_form", none), "has_form", "has_form", defArgs s_has_form, defBody s_has_form, defScope s_has_form, [], []⟩
def d_check_tree : He.DefD := ⟨("check_tree", none), "check_tree", "check_tree", defArgs s_check_tree, defBody s_check_tree, defScope s_check_tree, [], []⟩
def d_things_of : He.DefD := ⟨("things_of", none), "things_of", "things_of", defArgs s_things_of, defBody s_things_of, defScope s_things_of, [], []⟩
def d__law_cell : He.DefD := ⟨("_law_cell", none), "_law_cell", "_law_cell", defArgs s__law_cell, defBody s__law_cell, defScope s__law_cell, [], []⟩
def d__law_digits : He.DefD := ⟨("_law_digits", none), "_law_digits", "_law_digits", defArgs s__law_digits, defBody s__law_digits, defScope s__law_digits, [], []⟩
def d__law_rich : He.DefD := ⟨("_law_rich", none), "_law_rich", "_law_rich", defArgs s__law_rich, defBody s__law_rich, defScope s__law_rich, [], []⟩
def d__law_order : He.DefD := ⟨("_law_order", none), "_law_order", "_law_order", defArgs s__law_order, defBody s__law_order, defScope s__law_order, [], []⟩
def d__law_things : He.DefD := ⟨("_law_things", none), "_law_things", "_law_things", defArgs s__law_things, defBody s__law_things, defScope s__law_things, [], []⟩
def d__law_tree : He.DefD := ⟨("_law_tree", none), "_law_tree", "_law_tree", defArgs s__law_tree, defBody s__law_tree, defScope s__law_tree, [], []⟩
def d__law_has_form : He.DefD := ⟨("_law_has_form", none), "_law_has_form", "_law_has_form", defArgs s__law_has_form, defBody s__law_has_form, defScope s__law_has_form, [], []⟩
def d__law_bent : He.DefD := ⟨("_law_bent", none), "_law_bent", "_law_bent", defArgs s__law_bent, defBody s__law_bent, defScope s__law_bent, [], []⟩
def d_law : He.DefD := ⟨("law", none), "law", "law", defArgs s_law, defBody s_law, defScope s_law, [], []⟩
def fn : List He.DefD := [d_is_size, d_is_thing, d_listed, d_has_form, d_check_tree, d_things_of, d__law_cell, d__law_digits, d__law_rich, d__law_order, d__law_things, d__law_tree, d__law_has_form, d__law_bent, d_law]
abbrev RwR : PySem.W.OpenRow := PySem.W.OpenLaw.row PySem.Challenge.rw_unpartedrows_k03_trees
abbrev hk : PySem.W.Hook := hookX 4 (chkG g) fn
def ob (s : PySem.W.SharedT) : He.AlD := obsXG 4 (chkG g) fn (HandSHeadRun.getT s)
theorem ob_eq (s : PySem.W.SharedT) : ob s = hk.obs s.abs := obsXG_eq (HandSHeadRun.getT_eq s)
def names0 : List PySem.Str := ["UnpartedError", "InvalidTable", "InvalidTree", "MOST_THINGS", "is_size", "WORDS", "is_thing", "listed", "has_form", "check_tree", "things_of", "_law_cell", "_law_digits", "_law_rich", "_law_order", "_law_things", "_law_tree", "_law_has_form", "_law_bent"]
def names : List PySem.Str := names0
theorem run (w : World) : HandSHeadRun.RunEq RwR (PySem.W.view RwR.prog [23]) hk ob 4000 names w := by
  intro os
  kernel_rfl
theorem c_is_size : cSs { g with N := N_is_size } 60 true (defScope s_is_size) (defBody s_is_size) = some ir_is_size := by kernel_rfl
theorem sc_is_size : FnScope N_is_size ["n"] (defScope s_is_size) := ⟨rfl, rfl, rfl, by decide +kernel, rfl, by decide +kernel, by decide +kernel⟩
theorem ok_is_size (K : PySem.W.Frag) (mg : Str → Option Value) (says : SaysX (chkG g) fn K) (hg : mg "is_size" = some (.ref (He.ga K "is_size"))) : DefOk0 g K mg T "is_size" 1 := by
  obtain ⟨fd, F⟩ := says.def_ 0 (d := d_is_size) rfl
  exact ⟨_, fd, ["n"], N_is_size, _, _, _, _, _, 60, ir_is_size, hg, F, FunD.bindsA (ps := ["n"]) F fun _ _ _ _ _ _ us hl => match us, hl with | [_], _ => rfl, sc_is_size, rfl, c_is_size, by kernel_rfl⟩
theorem c_is_thing : cSs { g with N := N_is_thing } 60 true (defScope s_is_thing) (defBody s_is_thing) = some ir_is_thing := by kernel_rfl
theorem sc_is_thing : FnScope N_is_thing ["tree"] (defScope s_is_thing) := ⟨rfl, rfl, rfl, by decide +kernel, rfl, by decide +kernel, by decide +kernel⟩
theorem ok_is_thing (K : PySem.W.Frag) (mg : Str → Option Value) (says : SaysX (chkG g) fn K) (hg : mg "is_thing" = some (.ref (He.ga K "is_thing"))) : DefOk0 g K mg T "is_thing" 1 := by
  obtain ⟨fd, F⟩ := says.def_ 1 (d := d_is_thing) rfl
  exact ⟨_, fd, ["tree"], N_is_thing, _, _, _, _, _, 60, ir_is_thing, hg, F, FunD.bindsA (ps := ["tree"]) F fun _ _ _ _ _ _ us hl => match us, hl with | [_], _ => rfl, sc_is_thing, rfl, c_is_thing, by kernel_rfl⟩
theorem c_listed : cSs { g with N := N_listed } 60 true (defScope s_listed) (defBody s_listed) = some ir_listed := by kernel_rfl
theorem sc_listed : FnScope N_listed ["tree"] (defScope s_listed) := ⟨rfl, rfl, rfl, by decide +kernel, rfl, by decide +kernel, by decide +kernel⟩
theorem ok_listed (K : PySem.W.Frag) (mg : Str → Option Value) (says : SaysX (chkG g) fn K) (hg : mg "listed" = some (.ref (He.ga K "listed"))) : DefOk0 g K mg T "listed" 1 := by
  obtain ⟨fd, F⟩ := says.def_ 2 (d := d_listed) rfl
  exact ⟨_, fd, ["tree"], N_listed, _, _, _, _, _, 60, ir_listed, hg, F, FunD.bindsA (ps := ["tree"]) F fun _ _ _ _ _ _ us hl => match us, hl with | [_], _ => rfl, sc_listed, rfl, c_listed, by kernel_rfl⟩
theorem c_has_form : cSs { g with N := N_has_form } 60 true (defScope s_has_form) (defBody s_has_form) = some ir_has_form := by kernel_rfl
theorem sc_has_form : FnScope N_has_form ["tree"] (defScope s_has_form) := ⟨rfl, rfl, rfl, by decide +kernel, rfl, by decide +kernel, by decide +kernel⟩
theorem ok_has_form (K : PySem.W.Frag) (mg : Str → Option Value) (says : SaysX (chkG g) fn K) (hg : mg "has_form" = some (.ref (He.ga K "has_form"))) : DefOk0 g K mg T "has_form" 1 := by
  obtain ⟨fd, F⟩ := says.def_ 3 (d := d_has_form) rfl
  exact ⟨_, fd, ["tree"], N_has_form, _, _, _, _, _, 60, ir_has_form, hg, F, FunD.bindsA (ps := ["tree"]) F fun _ _ _ _ _ _ us hl => match us, hl with | [_], _ => rfl, sc_has_form, rfl, c_has_form, by kernel_rfl⟩
theorem c_check_tree : cSs { g with N := N_check_tree } 60 true (defScope s_check_tree) (defBody s_check_tree) = some ir_check_tree := by kernel_rfl
theorem sc_check_tree : FnScope N_check_tree ["n", "tree"] (defScope s_check_tree) := ⟨rfl, rfl, rfl, by decide +kernel, rfl, by decide +kernel, by decide +kernel⟩
theorem ok_check_tree (K : PySem.W.Frag) (mg : Str → Option Value) (says : SaysX (chkG g) fn K) (hg : mg "check_tree" = some (.ref (He.ga K "check_tree"))) : DefOk0 g K mg T "check_tree" 2 := by
  obtain ⟨fd, F⟩ := says.def_ 4 (d := d_check_tree) rfl
  exact ⟨_, fd, ["n", "tree"], N_check_tree, _, _, _, _, _, 60, ir_check_tree, hg, F, FunD.bindsA (ps := ["n", "tree"]) F fun _ _ _ _ _ _ us hl => match us, hl with | [_, _], _ => rfl, sc_check_tree, rfl, c_check_tree, by kernel_rfl⟩
theorem c_things_of : cSs { g with N := N_things_of } 60 true (defScope s_things_of) (defBody s_things_of) = some ir_things_of := by kernel_rfl
theorem sc_things_of : FnScope N_things_of ["tree"] (defScope s_things_of) := ⟨rfl, rfl, rfl, by decide +kernel, rfl, by decide +kernel, by decide +kernel⟩
theorem ok_things_of (K : PySem.W.Frag) (mg : Str → Option Value) (says : SaysX (chkG g) fn K) (hg : mg "things_of" = some (.ref (He.ga K "things_of"))) : DefOk0 g K mg T "things_of" 1 := by
  obtain ⟨fd, F⟩ := says.def_ 5 (d := d_things_of) rfl
  exact ⟨_, fd, ["tree"], N_things_of, _, _, _, _, _, 60, ir_things_of, hg, F, FunD.bindsA (ps := ["tree"]) F fun _ _ _ _ _ _ us hl => match us, hl with | [_], _ => rfl, sc_things_of, rfl, c_things_of, by kernel_rfl⟩
theorem c__law_cell : cSs { g with N := N__law_cell } 60 true (defScope s__law_cell) (defBody s__law_cell) = some ir__law_cell := by kernel_rfl
theorem sc__law_cell : FnScope N__law_cell ["_law_script", "_law_k"] (defScope s__law_cell) := ⟨rfl, rfl, rfl, by decide +kernel, rfl, by decide +kernel, by decide +kernel⟩
theorem ok__law_cell (K : PySem.W.Frag) (mg : Str → Option Value) (says : SaysX (chkG g) fn K) (hg : mg "_law_cell" = some (.ref (He.ga K "_law_cell"))) : DefOk0 g K mg T "_law_cell" 2 := by
  obtain ⟨fd, F⟩ := says.def_ 6 (d := d__law_cell) rfl
  exact ⟨_, fd, ["_law_script", "_law_k"], N__law_cell, _, _, _, _, _, 60, ir__law_cell, hg, F, FunD.bindsA (ps := ["_law_script", "_law_k"]) F fun _ _ _ _ _ _ us hl => match us, hl with | [_, _], _ => rfl, sc__law_cell, rfl, c__law_cell, by kernel_rfl⟩
theorem c__law_digits : cSs { g with N := N__law_digits } 60 true (defScope s__law_digits) (defBody s__law_digits) = some ir__law_digits := by kernel_rfl
theorem sc__law_digits : FnScope N__law_digits ["_law_cell_here", "_law_sizes"] (defScope s__law_digits) := ⟨rfl, rfl, rfl, by decide +kernel, rfl, by decide +kernel, by decide +kernel⟩
theorem ok__law_digits (K : PySem.W.Frag) (mg : Str → Option Value) (says : SaysX (chkG g) fn K) (hg : mg "_law_digits" = some (.ref (He.ga K "_law_digits"))) : DefOk0 g K mg T "_law_digits" 2 := by
  obtain ⟨fd, F⟩ := says.def_ 7 (d := d__law_digits) rfl
  exact ⟨_, fd, ["_law_cell_here", "_law_sizes"], N__law_digits, _, _, _, _, _, 60, ir__law_digits, hg, F, FunD.bindsA (ps := ["_law_cell_here", "_law_sizes"]) F fun _ _ _ _ _ _ us hl => match us, hl with | [_, _], _ => rfl, sc__law_digits, rfl, c__law_digits, by kernel_rfl⟩
theorem c__law_rich : cSs { g with N := N__law_rich } 60 true (defScope s__law_rich) (defBody s__law_rich) = some ir__law_rich := by kernel_rfl
theorem sc__law_rich : FnScope N__law_rich ["_law_cell_here"] (defScope s__law_rich) := ⟨rfl, rfl, rfl, by decide +kernel, rfl, by decide +kernel, by decide +kernel⟩
theorem ok__law_rich (K : PySem.W.Frag) (mg : Str → Option Value) (says : SaysX (chkG g) fn K) (hg : mg "_law_rich" = some (.ref (He.ga K "_law_rich"))) : DefOk0 g K mg T "_law_rich" 1 := by
  obtain ⟨fd, F⟩ := says.def_ 8 (d := d__law_rich) rfl
  exact ⟨_, fd, ["_law_cell_here"], N__law_rich, _, _, _, _, _, 60, ir__law_rich, hg, F, FunD.bindsA (ps := ["_law_cell_here"]) F fun _ _ _ _ _ _ us hl => match us, hl with | [_], _ => rfl, sc__law_rich, rfl, c__law_rich, by kernel_rfl⟩
theorem c__law_order : cSs { g with N := N__law_order } 60 true (defScope s__law_order) (defBody s__law_order) = some ir__law_order := by kernel_rfl
theorem sc__law_order : FnScope N__law_order ["_law_cell_here", "_law_n"] (defScope s__law_order) := ⟨rfl, rfl, rfl, by decide +kernel, rfl, by decide +kernel, by decide +kernel⟩
theorem ok__law_order (K : PySem.W.Frag) (mg : Str → Option Value) (says : SaysX (chkG g) fn K) (hg : mg "_law_order" = some (.ref (He.ga K "_law_order"))) : DefOk0 g K mg T "_law_order" 2 := by
  obtain ⟨fd, F⟩ := says.def_ 9 (d := d__law_order) rfl
  exact ⟨_, fd, ["_law_cell_here", "_law_n"], N__law_order, _, _, _, _, _, 60, ir__law_order, hg, F, FunD.bindsA (ps := ["_law_cell_here", "_law_n"]) F fun _ _ _ _ _ _ us hl => match us, hl with | [_, _], _ => rfl, sc__law_order, rfl, c__law_order, by kernel_rfl⟩
theorem c__law_things : cSs { g with N := N__law_things } 60 true (defScope s__law_things) (defBody s__law_things) = some ir__law_things := by kernel_rfl
theorem sc__law_things : FnScope N__law_things ["_law_tree_here"] (defScope s__law_things) := ⟨rfl, rfl, rfl, by decide +kernel, rfl, by decide +kernel, by decide +kernel⟩
theorem ok__law_things (K : PySem.W.Frag) (mg : Str → Option Value) (says : SaysX (chkG g) fn K) (hg : mg "_law_things" = some (.ref (He.ga K "_law_things"))) : DefOk0 g K mg T "_law_things" 1 := by
  obtain ⟨fd, F⟩ := says.def_ 10 (d := d__law_things) rfl
  exact ⟨_, fd, ["_law_tree_here"], N__law_things, _, _, _, _, _, 60, ir__law_things, hg, F, FunD.bindsA (ps := ["_law_tree_here"]) F fun _ _ _ _ _ _ us hl => match us, hl with | [_], _ => rfl, sc__law_things, rfl, c__law_things, by kernel_rfl⟩
theorem c__law_tree : cSs { g with N := N__law_tree } 60 true (defScope s__law_tree) (defBody s__law_tree) = some ir__law_tree := by kernel_rfl
theorem sc__law_tree : FnScope N__law_tree ["_law_cell_here", "_law_n"] (defScope s__law_tree) := ⟨rfl, rfl, rfl, by decide +kernel, rfl, by decide +kernel, by decide +kernel⟩
theorem ok__law_tree (K : PySem.W.Frag) (mg : Str → Option Value) (says : SaysX (chkG g) fn K) (hg : mg "_law_tree" = some (.ref (He.ga K "_law_tree"))) : DefOk0 g K mg T "_law_tree" 2 := by
  obtain ⟨fd, F⟩ := says.def_ 11 (d := d__law_tree) rfl
  exact ⟨_, fd, ["_law_cell_here", "_law_n"], N__law_tree, _, _, _, _, _, 60, ir__law_tree, hg, F, FunD.bindsA (ps := ["_law_cell_here", "_law_n"]) F fun _ _ _ _ _ _ us hl => match us, hl with | [_, _], _ => rfl, sc__law_tree, rfl, c__law_tree, by kernel_rfl⟩
theorem c__law_has_form : cSs { g with N := N__law_has_form } 60 true (defScope s__law_has_form) (defBody s__law_has_form) = some ir__law_has_form := by kernel_rfl
theorem sc__law_has_form : FnScope N__law_has_form ["_law_tree_here"] (defScope s__law_has_form) := ⟨rfl, rfl, rfl, by decide +kernel, rfl, by decide +kernel, by decide +kernel⟩
theorem ok__law_has_form (K : PySem.W.Frag) (mg : Str → Option Value) (says : SaysX (chkG g) fn K) (hg : mg "_law_has_form" = some (.ref (He.ga K "_law_has_form"))) : DefOk0 g K mg T "_law_has_form" 1 := by
  obtain ⟨fd, F⟩ := says.def_ 12 (d := d__law_has_form) rfl
  exact ⟨_, fd, ["_law_tree_here"], N__law_has_form, _, _, _, _, _, 60, ir__law_has_form, hg, F, FunD.bindsA (ps := ["_law_tree_here"]) F fun _ _ _ _ _ _ us hl => match us, hl with | [_], _ => rfl, sc__law_has_form, rfl, c__law_has_form, by kernel_rfl⟩
theorem c__law_bent : cSs { g with N := N__law_bent } 60 true (defScope s__law_bent) (defBody s__law_bent) = some ir__law_bent := by kernel_rfl
theorem sc__law_bent : FnScope N__law_bent ["_law_tree_here", "_law_rest"] (defScope s__law_bent) := ⟨rfl, rfl, rfl, by decide +kernel, rfl, by decide +kernel, by decide +kernel⟩
theorem ok__law_bent (K : PySem.W.Frag) (mg : Str → Option Value) (says : SaysX (chkG g) fn K) (hg : mg "_law_bent" = some (.ref (He.ga K "_law_bent"))) : DefOk0 g K mg T "_law_bent" 2 := by
  obtain ⟨fd, F⟩ := says.def_ 13 (d := d__law_bent) rfl
  exact ⟨_, fd, ["_law_tree_here", "_law_rest"], N__law_bent, _, _, _, _, _, 60, ir__law_bent, hg, F, FunD.bindsA (ps := ["_law_tree_here", "_law_rest"]) F fun _ _ _ _ _ _ us hl => match us, hl with | [_, _], _ => rfl, sc__law_bent, rfl, c__law_bent, by kernel_rfl⟩
theorem c_law : cSs { g with N := N_law } 60 true (defScope s_law) (defBody s_law) = some ir_law := by kernel_rfl
theorem sc_law : FnScope N_law ["_law_script"] (defScope s_law) := ⟨rfl, rfl, rfl, by decide +kernel, rfl, by decide +kernel, by decide +kernel⟩
theorem ok_law (K : PySem.W.Frag) (mg : Str → Option Value) (says : SaysX (chkG g) fn K) (hg : mg "law" = some (.ref (He.ga K "law"))) : DefOk0 g K mg T "law" 1 := by
  obtain ⟨fd, F⟩ := says.def_ 14 (d := d_law) rfl
  exact ⟨_, fd, ["_law_script"], N_law, _, _, _, _, _, 60, ir_law, hg, F, FunD.bindsA (ps := ["_law_script"]) F fun _ _ _ _ _ _ us hl => match us, hl with | [_], _ => rfl, sc_law, rfl, c_law, by kernel_rfl⟩
theorem all_ok (K : PySem.W.Frag) (mg : Str → Option Value) (says : SaysX (chkG g) fn K) (hg : ∀ f n, g.fns.lookup f = some n → mg f = some (.ref (He.ga K f))) : ∀ f n, g.fns.lookup f = some n → DefOk g K mg T f n := by
  intro f n h
  have m := lookup_mem h
  have key : ∀ p ∈ g.fns, mg p.1 = some (.ref (He.ga K p.1)) → DefOk g K mg T p.1 p.2 := by
    unfold g
    simp only [List.forall_mem_cons]
    exact ⟨fun h => .inl (ok_is_size K mg says h), fun h => .inl (ok_is_thing K mg says h), fun h => .inl (ok_listed K mg says h), fun h => .inl (ok_has_form K mg says h), fun h => .inl (ok_check_tree K mg says h), fun h => .inl (ok_things_of K mg says h), fun h => .inl (ok__law_cell K mg says h), fun h => .inl (ok__law_digits K mg says h), fun h => .inl (ok__law_rich K mg says h), fun h => .inl (ok__law_order K mg says h), fun h => .inl (ok__law_things K mg says h), fun h => .inl (ok__law_tree K mg says h), fun h => .inl (ok__law_has_form K mg says h), fun h => .inl (ok__law_bent K mg says h), fun h => .inl (ok_law K mg says h), fun p hp => by cases hp⟩
  exact key _ m (hg f n h)
theorem prs_ok (K : PySem.W.Frag) (mg : Str → Option Value) (says : SaysX (chkG g) fn K) (hg : ∀ f, f ∈ g.prs → mg f = some (.ref (He.ga K f))) : ∀ f, f ∈ g.prs → ProOk g K mg T f := by
  intro f h
  cases h
end K03
namespace K03
open PySem PC
def f_law_has_form : Nat → Bt → R Bool
  | 0, _ => .st
  | k + 1, tree_here => Fl.run (
    cnd (.ok (Bt.isLeaf tree_here))
      (letR (.ok true) fun v => .rt v)
      (cnd (((((Bt.len tree_here)).bind fun t => .ok (!decide (t = 2)))).bind fun t9 => (if t9 then .ok true else (((((Bt.word tree_here)).bind fun t1 => .ok (!memB t1 [(Wd.any), (Wd.row)]))).bind fun t8 => (if t8 then .ok true else (((((Bt.parts tree_here)).bind fun t2 => .ok ((t2).length : Int))).bind fun t6 => ((((((((Bt.word tree_here)).bind fun t3 => .ok (decide (t3 = (Wd.row))))).bind fun t4 => .ok (if t4 then (1 : Int) else 0))).bind fun t5 => .ok (2 + t5))).bind fun t7 => .ok (decide (t6 < t7)))))))
      (letR (.ok false) fun v => .rt v)
      (letR (((((((Bt.parts tree_here)).bind fun t10 => .ok t10)).bind fun t12 => (compR (fun part => (((f_law_has_form k part)).bind fun t11 => .ok (!t11))) (fun part => (.ok part)) t12))).bind fun t13 => (eqNil eBt t13)) fun v => .rt v))) .st
def f_law : Nat → (List Int) → R Bool
  | 0, _ => .st
  | k + 1, script => Fl.run (
    letR (((((f_law_cell k script 0)).bind fun t => (f_law_rich k t))).bind fun t1 => (f_law_digits k t1 [24, 2, 4, 4])) fun d =>
    letR (((atL d 0)).bind fun t2 => .ok (1 + t2)) fun n =>
    letR ((((f_law_cell k script 1)).bind fun t3 => (f_law_tree k t3 n)).bind fun a => .ok (toBt a)) fun tree_here =>
    cnd (((f_things_of_1 k tree_here)).bind fun t6 => ((((((rng 0 n)).bind fun t4 => .ok t4)).bind fun t5 => .ok t5)).bind fun t7 => .ok (!decide (t6 = t7)))
      (letR (.ok false) fun v => .rt v)
      (letR (.ok n) fun size =>
    Fl.seq (cnd (((atL d 1)).bind fun t8 => .ok (decide (t8 = 1)))
      (Fl.seq (cnd (((atL d 2)).bind fun t9 => .ok (decide (t9 = 0)))
        (letR (((atL d 3)).bind fun t10 => (atL [(n + 1), (n - 1), 25, 0] t10)) fun size1 =>
        .nx (tree_here, size1))
        (Fl.seq (cnd (((((atL d 2)).bind fun t11 => .ok (decide (t11 = 1)))).bind fun t13 => (if t13 then (((atL d 3)).bind fun t12 => .ok (decide (t12 = 0))) else .ok false))
          (letR (.ok 25) fun size2 =>
          letR (((((((rng 0 25)).bind fun t14 => .ok ((t14).map fun thing1 => (Bt.leaf thing1)))).bind fun t15 => .ok t15)).bind fun t16 => .ok (Bt.node (Wd.any) t16 false)) fun tree_here1 =>
          .nx (tree_here1, size2))
          (letR (((((f_law_cell k script 2)).bind fun t17 => (f_law_rich k t17))).bind fun t18 => (f_law_bent_2 k tree_here t18)) fun tree_here2 =>
          .nx (tree_here2, size))) fun (s2 : Bt × Int) =>
        .nx (s2.1, s2.2))) fun (s1 : Bt × Int) =>
      .nx (s1.1, s1.2))
      (.nx (tree_here, size))) fun (s : Bt × Int) =>
    letR (((f_law_has_form k s.1)).bind fun t19 => .ok (t19 && ((decide (1 ≤ s.2)) && (decide (s.2 ≤ 24))))) fun good =>
    letR (if good then (((((f_law_things_1 k s.1)).bind fun t20 => .ok (isort t20))).bind fun t22 => ((((rng 0 s.2)).bind fun t21 => .ok t21)).bind fun t23 => .ok (decide (t22 = t23))) else .ok false) fun good1 =>
    Fl.seq (tryF (letR (((((f_check_tree_1 k s.2 s.1)).bind fun t24 => (eqBtB t24 s.1))).bind fun t25 => .ok (t25 && good1)) fun v => .rt v) ["UnpartedError", "InvalidTable", "InvalidTree"] "InvalidTree" fun ex =>
      (letR (.ok ((!good1) && ((subC ex "UnpartedError") && (!(subC ex "InvalidTable"))))) fun v => .rt v)) fun (s3 : Unit) =>
    .st)) .st
theorem sm_is_size : ∀ (k : Nat) (n : Int), Rf eB (callP K03.T 1000 k "is_size" [eI n]) (f_is_size k n)
  | 0, _ => trivial
  | k + 1, n => by
    rw [f_is_size]
    refine fn_sim (fn := ⟨1, 1, K03.ir_is_size⟩) (by rfl) (by rfl) trivial ?_
    change Sim _ _ _ (evSs (callP K03.T 1000 k) 1000 K03.ir_is_size [.f (eI n)]) _
    unfold K03.ir_is_size
    exact Sim.ret (Rf.to (by first | rfl | (simp only [R.assoc, bind_ok, bind_id, bind_id2]; done) | (simp only [R.assoc, bind_ok, bind_id, bind_id2]; rfl)) (x_cmp (x_int (i := 1)) (fun x => c_morep (x_v (e := eI) (a := n) (by rfl)) (fun y => m_le x y) (fun x => c_one (x_int (i := 24)) (fun y => m_le x y))))) trivial
theorem sm_is_thing_2 : ∀ (k : Nat) (tree : Bt), Rf eB (callP K03.T 1000 k "is_thing" [eBt tree]) (f_is_thing_2 k tree)
  | 0, _ => trivial
  | k + 1, tree => by
    rw [f_is_thing_2]
    refine fn_sim (fn := ⟨1, 1, K03.ir_is_thing⟩) (by rfl) (by rfl) trivial ?_
    change Sim _ _ _ (evSs (callP K03.T 1000 k) 1000 K03.ir_is_thing [.f (eBt tree)]) _
    unfold K03.ir_is_thing
    exact Sim.ret (Rf.to (by first | rfl | (simp only [R.assoc, bind_ok, bind_id, bind_id2]; done) | (simp only [R.assoc, bind_ok, bind_id, bind_id2]; rfl)) (x_bi1 (x_v (e := eBt) (a := tree) (by rfl)) b_isIntBt)) trivial
theorem sm_is_thing_3 : ∀ (k : Nat) (tree : (List Bt)), Rf eB (callP K03.T 1000 k "is_thing" [(eT eBt) tree]) (f_is_thing_3 k tree)
  | 0, _ => trivial
  | k + 1, tree => by
    rw [f_is_thing_3]
    refine fn_sim (fn := ⟨1, 1, K03.ir_is_thing⟩) (by rfl) (by rfl) trivial ?_
    change Sim _ _ _ (evSs (callP K03.T 1000 k) 1000 K03.ir_is_thing [.f ((eT eBt) tree)]) _
    unfold K03.ir_is_thing
    exact Sim.ret (Rf.to (by first | rfl | (simp only [R.assoc, bind_ok, bind_id, bind_id2]; done) | (simp only [R.assoc, bind_ok, bind_id, bind_id2]; rfl)) (x_bi1 (x_v (e := (eT eBt)) (a := tree) (by rfl)) b_isIntTt)) trivial
theorem sm_listed_1 : ∀ (k : Nat) (tree : Bt), Rf (eL eI) (callP K03.T 1000 k "listed" [eBt tree]) (f_listed_1 k tree)
  | 0, _ => trivial
  | k + 1, tree => by
    rw [f_listed_1]
    refine fn_sim (fn := ⟨1, 3, K03.ir_listed⟩) (by rfl) (by rfl) trivial ?_
    change Sim _ _ _ (evSs (callP K03.T 1000 k) 1000 K03.ir_listed [.f (eBt tree), .u, .u]) _
    unfold K03.ir_listed
    refine Sim.ite1 (by rfl) (Rf.to (by first | rfl | (simp only [R.assoc, bind_ok, bind_id, bind_id2]; done) | (simp only [R.assoc, bind_ok, bind_id, bind_id2]; rfl)) (x_call1 (f := "is_thing") (x_v (e := eBt) (a := tree) (by rfl)) (fun a0 => sm_is_thing_2  k a0))) trivial ?_ ?_
    · exact Sim.ret (Rf.to (by first | rfl | (simp only [R.assoc, bind_ok, bind_id, bind_id2]; done) | (simp only [R.assoc, bind_ok, bind_id, bind_id2]; rfl)) (x_lst (es_cons (x_cop (e' := eI) (x_v (e := eBt) (a := tree) (by rfl)) cp_thingB) (es_nil (e := eI))))) trivial
    refine Sim.asgO flI (by rfl) (fun found => [.f (eBt tree), .o ((eL eI) found), .u]) (Rf.to (by first | rfl | (simp only [R.assoc, bind_ok, bind_id, bind_id2]; done) | (simp only [R.assoc, bind_ok, bind_id, bind_id2]; rfl)) (x_lst (es_nil (e := eI)))) trivial (fun found => by rfl) (fun found => ?_)
    refine Sim.for (mkL := fun (s1 : (List Int)) (j1 : Sl) => [.f (eBt tree), .o ((eL eI) s1), j1]) (env1 := fun part s1 j1 => [.f (eBt tree), .o ((eL eI) s1), .f (eBt part)]) (s0 := (found)) (j0 := (.u)) (e := eBt) (Rf.to (by first | rfl | (simp only [R.assoc, bind_ok, bind_id, bind_id2]; done) | (simp only [R.assoc, bind_ok, bind_id, bind_id2]; rfl)) (n_T (x_partsB (x_v (e := eBt) (a := tree) (by rfl))))) trivial rfl (fun part s1 j1 => by rfl) (fun part s1 j1 => ?_) (fun s1 j1 => ?_)
    · refine Sim.ext (b := false) flI (fun found1 => [.f (eBt tree), .o ((eL eI) found1), .f (eBt part)]) (Rf.to (by first | rfl | (simp only [R.assoc, bind_ok, bind_id, bind_id2]; done) | (simp only [R.assoc, bind_ok, bind_id, bind_id2]; rfl)) ((x_co (e' := (eSq false eI)) (f := fun a => a) (x_call1 (f := "listed") (x_v (e := eBt) (a := part) (by rfl)) (fun a0 => sm_listed_1  k a0)) co_SL).to (bind_id _))) trivial (by rfl) (fun found1 => by rfl) (fun found1 => ?_)
      exact Sim.nil (j := (.f (eBt part))) rfl
    exact Sim.ret (Rf.to (by first | rfl | (simp only [R.assoc, bind_ok, bind_id, bind_id2]; done) | (simp only [R.assoc, bind_ok, bind_id, bind_id2]; rfl)) (x_v (e := (eL eI)) (a := s1) (by rfl))) trivial
theorem sm_has_form_1 : ∀ (k : Nat) (tree : Bt), Rf eB (callP K03.T 1000 k "has_form" [eBt tree]) (f_has_form_1 k tree)
  | 0, _ => trivial
  | k + 1, tree => by
    rw [f_has_form_1]
    refine fn_sim (fn := ⟨1, 2, K03.ir_has_form⟩) (by rfl) (by rfl) trivial ?_
    change Sim _ _ _ (evSs (callP K03.T 1000 k) 1000 K03.ir_has_form [.f (eBt tree), .u]) _
    unfold K03.ir_has_form
    refine Sim.ite1 (by rfl) (Rf.to (by first | rfl | (simp only [R.assoc, bind_ok, bind_id, bind_id2]; done) | (simp only [R.assoc, bind_ok, bind_id, bind_id2]; rfl)) (x_call1 (f := "is_thing") (x_v (e := eBt) (a := tree) (by rfl)) (fun a0 => sm_is_thing_2  k a0))) trivial ?_ ?_
    · exact Sim.ret (Rf.to (by first | rfl | (simp only [R.assoc, bind_ok, bind_id, bind_id2]; done) | (simp only [R.assoc, bind_ok, bind_id, bind_id2]; rfl)) x_bl) trivial
    refine Sim.ite1 (by rfl) (Rf.to (by first | rfl | (simp only [R.assoc, bind_ok, bind_id, bind_id2]; done) | (simp only [R.assoc, bind_ok, bind_id, bind_id2]; rfl)) (x_or (x_cmp (x_bi1 (x_v (e := eBt) (a := tree) (by rfl)) b_lenBt) (fun x => c_one (x_int (i := 2)) (fun y => m_ne q_I (by decide) x y))) (x_or (x_bi1 (x_wordB (x_v (e := eBt) (a := tree) (by rfl))) b_ninQ) (x_or (x_call1 (f := "is_thing") (x_partsB (x_v (e := eBt) (a := tree) (by rfl))) (fun a0 => sm_is_thing_3  k a0)) (x_bi1 (x_partsB (x_v (e := eBt) (a := tree) (by rfl))) b_isStrTt))))) trivial ?_ ?_
    · exact Sim.ret (Rf.to (by first | rfl | (simp only [R.assoc, bind_ok, bind_id, bind_id2]; done) | (simp only [R.assoc, bind_ok, bind_id, bind_id2]; rfl)) x_bl) trivial
    refine Sim.ite1 (by rfl) (Rf.to (by first | rfl | (simp only [R.assoc, bind_ok, bind_id, bind_id2]; done) | (simp only [R.assoc, bind_ok, bind_id, bind_id2]; rfl)) (x_or (x_cmp (x_bi1 (x_partsB (x_v (e := eBt) (a := tree) (by rfl))) (b_lenT (e := eBt))) (fun x => c_one (x_int (i := 2)) (fun y => m_lt x y))) (x_and (x_cmp (x_wordB (x_v (e := eBt) (a := tree) (by rfl))) (fun x => c_one x_qrow (fun y => m_eq q_Q (by decide) x y))) (x_cmp (x_bi1 (x_partsB (x_v (e := eBt) (a := tree) (by rfl))) (b_lenT (e := eBt))) (fun x => c_one (x_int (i := 3)) (fun y => m_lt x y)))))) trivial ?_ ?_
    · exact Sim.ret (Rf.to (by first | rfl | (simp only [R.assoc, bind_ok, bind_id, bind_id2]; done) | (simp only [R.assoc, bind_ok, bind_id, bind_id2]; rfl)) x_bl) trivial
    exact Sim.ret (Rf.to (by first | rfl | (simp only [R.assoc, bind_ok, bind_id, bind_id2]; done) | (simp only [R.assoc, bind_ok, bind_id, bind_id2]; rfl)) (x_bi1 (x_lcm (e1 := eBt) (e := eB) (g := fun part => (f_has_form_1 k part)) (fun part => [.f (eBt tree), .f (eBt part)]) (n_T (x_partsB (x_v (e := eBt) (a := tree) (by rfl)))) (fun part => by rfl) (fun part => (Rf.to (by first | rfl | (simp only [R.assoc, bind_ok, bind_id, bind_id2]; done) | (simp only [R.assoc, bind_ok, bind_id, bind_id2]; rfl)) (x_call1 (f := "has_form") (x_v (e := eBt) (a := part) (by rfl)) (fun a0 => sm_has_form_1  k a0))))) b_all)) trivial
theorem sm_check_tree_1 : ∀ (k : Nat) (n : Int) (tree : Bt), Rf eBt (callP K03.T 1000 k "check_tree" [eI n, eBt tree]) (f_check_tree_1 k n tree)
  | 0, _, _ => trivial
  | k + 1, n, tree => by
    rw [f_check_tree_1]
    refine fn_sim (fn := ⟨2, 2, K03.ir_check_tree⟩) (by rfl) (by rfl) trivial ?_
    change Sim _ _ _ (evSs (callP K03.T 1000 k) 1000 K03.ir_check_tree [.f (eI n), .f (eBt tree)]) _
    unfold K03.ir_check_tree
    refine Sim.ite1 (by rfl) (Rf.to (by first | rfl | (simp only [R.assoc, bind_ok, bind_id, bind_id2]; done) | (simp only [R.assoc, bind_ok, bind_id, bind_id2]; rfl)) (x_or (x_not (x_call1 (f := "is_size") (x_v (e := eI) (a := n) (by rfl)) (fun a0 => sm_is_size  k a0))) (x_or (x_not (x_call1 (f := "has_form") (x_v (e := eBt) (a := tree) (by rfl)) (fun a0 => sm_has_form_1  k a0))) (x_cmp (x_bi1 (x_call1 (f := "listed") (x_v (e := eBt) (a := tree) (by rfl)) (fun a0 => sm_listed_1  k a0)) b_sortL) (fun x => c_one (x_bi1 (x_v (e := eI) (a := n) (by rfl)) b_lR1) (fun y => m_ne (q_L q_I) (by decide) x y)))))) trivial ?_ ?_
    · exact Sim.raise trivial
    exact Sim.ret (Rf.to (by first | rfl | (simp only [R.assoc, bind_ok, bind_id, bind_id2]; done) | (simp only [R.assoc, bind_ok, bind_id, bind_id2]; rfl)) (x_v (e := eBt) (a := tree) (by rfl))) trivial
theorem sm_things_of_1 : ∀ (k : Nat) (tree : Bt), Rf (eT eI) (callP K03.T 1000 k "things_of" [eBt tree]) (f_things_of_1 k tree)
  | 0, _ => trivial
  | k + 1, tree => by
    rw [f_things_of_1]
    refine fn_sim (fn := ⟨1, 2, K03.ir_things_of⟩) (by rfl) (by rfl) trivial ?_
    change Sim _ _ _ (evSs (callP K03.T 1000 k) 1000 K03.ir_things_of [.f (eBt tree), .u]) _
    unfold K03.ir_things_of
    refine Sim.ite1 (by rfl) (Rf.to (by first | rfl | (simp only [R.assoc, bind_ok, bind_id, bind_id2]; done) | (simp only [R.assoc, bind_ok, bind_id, bind_id2]; rfl)) (x_not (x_call1 (f := "has_form") (x_v (e := eBt) (a := tree) (by rfl)) (fun a0 => sm_has_form_1  k a0)))) trivial ?_ ?_
    · exact Sim.raise trivial
    refine Sim.asgF (flT flI) (fun found => [.f (eBt tree), .f ((eT eI) found)]) (Rf.to (by first | rfl | (simp only [R.assoc, bind_ok, bind_id, bind_id2]; done) | (simp only [R.assoc, bind_ok, bind_id, bind_id2]; rfl)) (x_bi1 (x_bi1 (x_call1 (f := "listed") (x_v (e := eBt) (a := tree) (by rfl)) (fun a0 => sm_listed_1  k a0)) b_sortL) (b_tupL (e := eI)))) trivial (fun found => by rfl) (fun found => ?_)
    refine Sim.ite1 (by rfl) (Rf.to (by first | rfl | (simp only [R.assoc, bind_ok, bind_id, bind_id2]; done) | (simp only [R.assoc, bind_ok, bind_id, bind_id2]; rfl)) (x_or (x_cmp (x_ix (x_v (e := (eT eI)) (a := found) (by rfl)) (x_int (i := 0)) (i_T (e := eI))) (fun x => c_one (x_int (i := 0)) (fun y => m_lt x y))) (x_cmp (x_bi1 (x_v (e := (eT eI)) (a := found) (by rfl)) b_lset) (fun x => c_one (x_bi1 (x_v (e := (eT eI)) (a := found) (by rfl)) (b_lenT (e := eI))) (fun y => m_lt x y))))) trivial ?_ ?_
    · exact Sim.raise trivial
    exact Sim.ret (Rf.to (by first | rfl | (simp only [R.assoc, bind_ok, bind_id, bind_id2]; done) | (simp only [R.assoc, bind_ok, bind_id, bind_id2]; rfl)) (x_v (e := (eT eI)) (a := found) (by rfl))) trivial
theorem sm_law_cell : ∀ (k : Nat) (script : (List Int)) (k_ : Int), Rf eI (callP K03.T 1000 k "_law_cell" [(eL eI) script, eI k_]) (f_law_cell k script k_)
  | 0, _, _ => trivial
  | k + 1, script, k_ => by
    rw [f_law_cell]
    refine fn_sim (fn := ⟨2, 2, K03.ir__law_cell⟩) (by rfl) (by rfl) trivial ?_
    change Sim _ _ _ (evSs (callP K03.T 1000 k) 1000 K03.ir__law_cell [.f ((eL eI) script), .f (eI k_)]) _
    unfold K03.ir__law_cell
    refine Sim.ite1 (by rfl) (Rf.to (by first | rfl | (simp only [R.assoc, bind_ok, bind_id, bind_id2]; done) | (simp only [R.assoc, bind_ok, bind_id, bind_id2]; rfl)) (x_cmp (x_v (e := eI) (a := k_) (by rfl)) (fun x => c_one (x_bi1 (x_v (e := (eL eI)) (a := script) (by rfl)) (b_lenL (e := eI))) (fun y => m_lt x y)))) trivial ?_ ?_
    · exact Sim.ret (Rf.to (by first | rfl | (simp only [R.assoc, bind_ok, bind_id, bind_id2]; done) | (simp only [R.assoc, bind_ok, bind_id, bind_id2]; rfl)) (x_ix (x_v (e := (eL eI)) (a := script) (by rfl)) (x_v (e := eI) (a := k_) (by rfl)) (i_L (e := eI)))) trivial
    exact Sim.ret (Rf.to (by first | rfl | (simp only [R.assoc, bind_ok, bind_id, bind_id2]; done) | (simp only [R.assoc, bind_ok, bind_id, bind_id2]; rfl)) (x_int (i := 0))) trivial
theorem sm_law_digits : ∀ (k : Nat) (cell_here : Int) (sizes : (List Int)), Rf (eL eI) (callP K03.T 1000 k "_law_digits" [eI cell_here, (eL eI) sizes]) (f_law_digits k cell_here sizes)
  | 0, _, _ => trivial
  | k + 1, cell_here, sizes => by
    rw [f_law_digits]
    refine fn_sim (fn := ⟨2, 4, K03.ir__law_digits⟩) (by rfl) (by rfl) trivial ?_
    change Sim _ _ _ (evSs (callP K03.T 1000 k) 1000 K03.ir__law_digits [.f (eI cell_here), .f ((eL eI) sizes), .u, .u]) _
    unfold K03.ir__law_digits
    refine Sim.asgO flI (by rfl) (fun row => [.f (eI cell_here), .f ((eL eI) sizes), .o ((eL eI) row), .u]) (Rf.to (by first | rfl | (simp only [R.assoc, bind_ok, bind_id, bind_id2]; done) | (simp only [R.assoc, bind_ok, bind_id, bind_id2]; rfl)) (x_lst (es_nil (e := eI)))) trivial (fun row => by rfl) (fun row => ?_)
    refine Sim.for (mkL := fun (s1 : Int × (List Int)) (j1 : Sl) => [.f (eI s1.1), .f ((eL eI) sizes), .o ((eL eI) s1.2), j1]) (env1 := fun size s1 j1 => [.f (eI s1.1), .f ((eL eI) sizes), .o ((eL eI) s1.2), .f (eI size)]) (s0 := (cell_here, row)) (j0 := (.u)) (e := eI) (Rf.to (by first | rfl | (simp only [R.assoc, bind_ok, bind_id, bind_id2]; done) | (simp only [R.assoc, bind_ok, bind_id, bind_id2]; rfl)) (n_L (x_v (e := (eL eI)) (a := sizes) (by rfl)))) trivial rfl (fun size s1 j1 => by rfl) (fun size s1 j1 => ?_) (fun s1 j1 => ?_)
    · refine Sim.app flI (fun row1 => [.f (eI s1.1), .f ((eL eI) sizes), .o ((eL eI) row1), .f (eI size)]) (Rf.to (by first | rfl | (simp only [R.assoc, bind_ok, bind_id, bind_id2]; done) | (simp only [R.assoc, bind_ok, bind_id, bind_id2]; rfl)) (x_op (x_bi1 (x_v (e := eI) (a := s1.1) (by rfl)) b_int) (x_v (e := eI) (a := size) (by rfl)) o_mod)) trivial (by rfl) (fun row1 => by rfl) (fun row1 => ?_)
      refine Sim.asgF flI (fun cell_here1 => [.f (eI cell_here1), .f ((eL eI) sizes), .o ((eL eI) row1), .f (eI size)]) (Rf.to (by first | rfl | (simp only [R.assoc, bind_ok, bind_id, bind_id2]; done) | (simp only [R.assoc, bind_ok, bind_id, bind_id2]; rfl)) (x_op (x_v (e := eI) (a := s1.1) (by rfl)) (x_v (e := eI) (a := size) (by rfl)) o_div)) trivial (fun cell_here1 => by rfl) (fun cell_here1 => ?_)
      exact Sim.nil (j := (.f (eI size))) rfl
    exact Sim.ret (Rf.to (by first | rfl | (simp only [R.assoc, bind_ok, bind_id, bind_id2]; done) | (simp only [R.assoc, bind_ok, bind_id, bind_id2]; rfl)) (x_v (e := (eL eI)) (a := s1.2) (by rfl))) trivial
theorem sm_law_rich : ∀ (k : Nat) (cell_here : Int), Rf eI (callP K03.T 1000 k "_law_rich" [eI cell_here]) (f_law_rich k cell_here)
  | 0, _ => trivial
  | k + 1, cell_here => by
    rw [f_law_rich]
    refine fn_sim (fn := ⟨1, 3, K03.ir__law_rich⟩) (by rfl) (by rfl) trivial ?_
    change Sim _ _ _ (evSs (callP K03.T 1000 k) 1000 K03.ir__law_rich [.f (eI cell_here), .u, .u]) _
    unfold K03.ir__law_rich
    refine Sim.ite1 (by rfl) (Rf.to (by first | rfl | (simp only [R.assoc, bind_ok, bind_id, bind_id2]; done) | (simp only [R.assoc, bind_ok, bind_id, bind_id2]; rfl)) (x_cmp (x_v (e := eI) (a := cell_here) (by rfl)) (fun x => c_one (x_op (x_int (i := 10)) (x_int (i := 18)) o_pow) (fun y => m_ge x y)))) trivial ?_ ?_
    · exact Sim.ret (Rf.to (by first | rfl | (simp only [R.assoc, bind_ok, bind_id, bind_id2]; done) | (simp only [R.assoc, bind_ok, bind_id, bind_id2]; rfl)) (x_v (e := eI) (a := cell_here) (by rfl))) trivial
    refine Sim.asgF flI (fun low => [.f (eI cell_here), .f (eI low), .u]) (Rf.to (by first | rfl | (simp only [R.assoc, bind_ok, bind_id, bind_id2]; done) | (simp only [R.assoc, bind_ok, bind_id, bind_id2]; rfl)) (x_op (x_bi1 (x_op (x_op (x_v (e := eI) (a := cell_here) (by rfl)) (x_int (i := 48271)) o_mul) (x_int (i := 11)) o_add) b_int) (x_int (i := 2147483647)) o_mod)) trivial (fun low => by rfl) (fun low => ?_)
    refine Sim.asgF flI (fun high => [.f (eI cell_here), .f (eI low), .f (eI high)]) (Rf.to (by first | rfl | (simp only [R.assoc, bind_ok, bind_id, bind_id2]; done) | (simp only [R.assoc, bind_ok, bind_id, bind_id2]; rfl)) (x_op (x_bi1 (x_op (x_op (x_op (x_v (e := eI) (a := low) (by rfl)) (x_int (i := 69621)) o_mul) (x_op (x_v (e := eI) (a := cell_here) (by rfl)) (x_int (i := 7)) o_div) o_add) (x_int (i := 5)) o_add) b_int) (x_int (i := 2147483629)) o_mod)) trivial (fun high => by rfl) (fun high => ?_)
    exact Sim.ret (Rf.to (by first | rfl | (simp only [R.assoc, bind_ok, bind_id, bind_id2]; done) | (simp only [R.assoc, bind_ok, bind_id, bind_id2]; rfl)) (x_op (x_op (x_v (e := eI) (a := low) (by rfl)) (x_int (i := 2147483629)) o_mul) (x_v (e := eI) (a := high) (by rfl)) o_add)) trivial
theorem sm_law_order : ∀ (k : Nat) (cell_here : Int) (n : Int), Rf (eT eI) (callP K03.T 1000 k "_law_order" [eI cell_here, eI n]) (f_law_order k cell_here n)
  | 0, _, _ => trivial
  | k + 1, cell_here, n => by
    rw [f_law_order]
    refine fn_sim (fn := ⟨2, 7, K03.ir__law_order⟩) (by rfl) (by rfl) trivial ?_
    change Sim _ _ _ (evSs (callP K03.T 1000 k) 1000 K03.ir__law_order [.f (eI cell_here), .f (eI n), .u, .u, .u, .u, .u]) _
    unfold K03.ir__law_order
    refine Sim.asgO flI (by rfl) (fun left => [.f (eI cell_here), .f (eI n), .o ((eL eI) left), .u, .u, .u, .u]) (Rf.to (by first | rfl | (simp only [R.assoc, bind_ok, bind_id, bind_id2]; done) | (simp only [R.assoc, bind_ok, bind_id, bind_id2]; rfl)) (x_lci (e := eI) (fun thing => [.f (eI cell_here), .f (eI n), .u, .u, .u, .u, .f (eI thing)]) (n_r1 (x_v (e := eI) (a := n) (by rfl))) (fun thing => by rfl) (fun thing => (Rf.to (by first | rfl | (simp only [R.assoc, bind_ok, bind_id, bind_id2]; done) | (simp only [R.assoc, bind_ok, bind_id, bind_id2]; rfl)) (x_v (e := eI) (a := thing) (by rfl)))))) trivial (fun left => by rfl) (fun left => ?_)
    refine Sim.asgF flI (fun rest => [.f (eI cell_here), .f (eI n), .o ((eL eI) left), .f (eI rest), .u, .u, .u]) (Rf.to (by first | rfl | (simp only [R.assoc, bind_ok, bind_id, bind_id2]; done) | (simp only [R.assoc, bind_ok, bind_id, bind_id2]; rfl)) (x_call1 (f := "_law_rich") (x_v (e := eI) (a := cell_here) (by rfl)) (fun a0 => sm_law_rich  k a0))) trivial (fun rest => by rfl) (fun rest => ?_)
    refine Sim.asgO flI (by rfl) (fun order_here => [.f (eI cell_here), .f (eI n), .o ((eL eI) left), .f (eI rest), .o ((eL eI) order_here), .u, .u]) (Rf.to (by first | rfl | (simp only [R.assoc, bind_ok, bind_id, bind_id2]; done) | (simp only [R.assoc, bind_ok, bind_id, bind_id2]; rfl)) (x_lst (es_nil (e := eI)))) trivial (fun order_here => by rfl) (fun order_here => ?_)
    refine Sim.for (mkL := fun (s1 : (List Int) × Int × (List Int)) (j1 : Sl) => [.f (eI cell_here), .f (eI n), .o ((eL eI) s1.1), .f (eI s1.2.1), .o ((eL eI) s1.2.2), j1, .u]) (env1 := fun k_ s1 j1 => [.f (eI cell_here), .f (eI n), .o ((eL eI) s1.1), .f (eI s1.2.1), .o ((eL eI) s1.2.2), .f (eI k_), .u]) (s0 := (left, rest, order_here)) (j0 := (.u)) (e := eI) (Rf.to (by first | rfl | (simp only [R.assoc, bind_ok, bind_id, bind_id2]; done) | (simp only [R.assoc, bind_ok, bind_id, bind_id2]; rfl)) (n_r1 (x_v (e := eI) (a := n) (by rfl)))) trivial rfl (fun k_ s1 j1 => by rfl) (fun k_ s1 j1 => ?_) (fun s1 j1 => ?_)
    · refine Sim.appPop (by decide) (fun left1 order_here1 => [.f (eI cell_here), .f (eI n), .o ((eL eI) left1), .f (eI s1.2.1), .o ((eL eI) order_here1), .f (eI k_), .u]) (Rf.to (by first | rfl | (simp only [R.assoc, bind_ok, bind_id, bind_id2]; done) | (simp only [R.assoc, bind_ok, bind_id, bind_id2]; rfl)) (x_op (x_bi1 (x_v (e := eI) (a := s1.2.1) (by rfl)) b_int) (x_op (x_v (e := eI) (a := n) (by rfl)) (x_v (e := eI) (a := k_) (by rfl)) o_sub) o_mod)) trivial (by rfl) (by rfl) (fun left1 order_here1 => by rfl) (fun left1 order_here1 => ?_)
      refine Sim.asgF flI (fun rest1 => [.f (eI cell_here), .f (eI n), .o ((eL eI) left1), .f (eI rest1), .o ((eL eI) order_here1), .f (eI k_), .u]) (Rf.to (by first | rfl | (simp only [R.assoc, bind_ok, bind_id, bind_id2]; done) | (simp only [R.assoc, bind_ok, bind_id, bind_id2]; rfl)) (x_op (x_v (e := eI) (a := s1.2.1) (by rfl)) (x_op (x_v (e := eI) (a := n) (by rfl)) (x_v (e := eI) (a := k_) (by rfl)) o_sub) o_div)) trivial (fun rest1 => by rfl) (fun rest1 => ?_)
      refine Sim.iteJ (mk' := fun (s2 : Int) (j2 : Unit) => [.f (eI cell_here), .f (eI n), .o ((eL eI) left1), .f (eI s2), .o ((eL eI) order_here1), .f (eI k_), .u]) (Rf.to (by first | rfl | (simp only [R.assoc, bind_ok, bind_id, bind_id2]; done) | (simp only [R.assoc, bind_ok, bind_id, bind_id2]; rfl)) (x_cmp (x_v (e := eI) (a := rest1) (by rfl)) (fun x => c_one (x_int (i := 0)) (fun y => m_eq q_I (by decide) x y)))) trivial ?_ ?_ (fun s2 j2 => ?_)
      · refine Sim.asgF flI (fun rest2 => [.f (eI cell_here), .f (eI n), .o ((eL eI) left1), .f (eI rest2), .o ((eL eI) order_here1), .f (eI k_), .u]) (Rf.to (by first | rfl | (simp only [R.assoc, bind_ok, bind_id, bind_id2]; done) | (simp only [R.assoc, bind_ok, bind_id, bind_id2]; rfl)) (x_call1 (f := "_law_rich") (x_op (x_op (x_v (e := eI) (a := cell_here) (by rfl)) (x_v (e := eI) (a := k_) (by rfl)) o_add) (x_int (i := 1)) o_add) (fun a0 => sm_law_rich  k a0))) trivial (fun rest2 => by rfl) (fun rest2 => ?_)
        exact Sim.nil (j := ()) rfl
      · exact Sim.nil (j := ()) rfl
      exact Sim.nil (j := (.f (eI k_))) rfl
    exact Sim.ret (Rf.to (by first | rfl | (simp only [R.assoc, bind_ok, bind_id, bind_id2]; done) | (simp only [R.assoc, bind_ok, bind_id, bind_id2]; rfl)) (x_bi1 (x_v (e := (eL eI)) (a := s1.2.2) (by rfl)) (b_tupL (e := eI)))) trivial
theorem sm_law_things_1 : ∀ (k : Nat) (tree_here : Bt), Rf (eL eI) (callP K03.T 1000 k "_law_things" [eBt tree_here]) (f_law_things_1 k tree_here)
  | 0, _ => trivial
  | k + 1, tree_here => by
    rw [f_law_things_1]
    refine fn_sim (fn := ⟨1, 3, K03.ir__law_things⟩) (by rfl) (by rfl) trivial ?_
    change Sim _ _ _ (evSs (callP K03.T 1000 k) 1000 K03.ir__law_things [.f (eBt tree_here), .u, .u]) _
    unfold K03.ir__law_things
    refine Sim.ite1 (by rfl) (Rf.to (by first | rfl | (simp only [R.assoc, bind_ok, bind_id, bind_id2]; done) | (simp only [R.assoc, bind_ok, bind_id, bind_id2]; rfl)) (x_bi1 (x_v (e := eBt) (a := tree_here) (by rfl)) b_isIntBt)) trivial ?_ ?_
    · exact Sim.ret (Rf.to (by first | rfl | (simp only [R.assoc, bind_ok, bind_id, bind_id2]; done) | (simp only [R.assoc, bind_ok, bind_id, bind_id2]; rfl)) (x_lst (es_cons (x_cop (e' := eI) (x_v (e := eBt) (a := tree_here) (by rfl)) cp_thingB) (es_nil (e := eI))))) trivial
    refine Sim.asgO flI (by rfl) (fun found => [.f (eBt tree_here), .o ((eL eI) found), .u]) (Rf.to (by first | rfl | (simp only [R.assoc, bind_ok, bind_id, bind_id2]; done) | (simp only [R.assoc, bind_ok, bind_id, bind_id2]; rfl)) (x_lst (es_nil (e := eI)))) trivial (fun found => by rfl) (fun found => ?_)
    refine Sim.for (mkL := fun (s2 : (List Int)) (j2 : Bool × Sl) => [.f (eBt tree_here), slb j2.1 ((eL eI) s2), j2.2]) (env1 := fun part s2 j2 => [.f (eBt tree_here), slb j2.1 ((eL eI) s2), .f (eBt part)]) (s0 := (found)) (j0 := (false, .u)) (e := eBt) (Rf.to (by first | rfl | (simp only [R.assoc, bind_ok, bind_id, bind_id2]; done) | (simp only [R.assoc, bind_ok, bind_id, bind_id2]; rfl)) (n_T (x_partsB (x_v (e := eBt) (a := tree_here) (by rfl))))) trivial rfl (fun part s2 j2 => by rfl) (fun part s2 j2 => ?_) (fun s2 j2 => ?_)
    · refine Sim.asgL (by rfl) (fun found1 => [.f (eBt tree_here), .f ((eL eI) found1), .f (eBt part)]) (Rf.to (by first | rfl | (simp only [R.assoc, bind_ok, bind_id, bind_id2]; done) | (simp only [R.assoc, bind_ok, bind_id, bind_id2]; rfl)) (x_op (x_v (e := (eL eI)) (a := s2) (by exact rd_slb)) (x_call1 (f := "_law_things") (x_v (e := eBt) (a := part) (by rfl)) (fun a0 => sm_law_things_1  k a0)) (o_catL (e := eI)))) trivial (fun found1 => set_frz (frz_c rfl (frz_c frz1_et (frz_c rfl rfl))) rfl) (fun found1 => ?_)
      exact Sim.nil (j := (true, .f (eBt part))) rfl
    exact Sim.ret (Rf.to (by first | rfl | (simp only [R.assoc, bind_ok, bind_id, bind_id2]; done) | (simp only [R.assoc, bind_ok, bind_id, bind_id2]; rfl)) (x_v (e := (eL eI)) (a := s2) (by exact rd_slb))) trivial
theorem sm_law_tree : ∀ (k : Nat) (cell_here : Int) (n : Int), Rf eTr (callP K03.T 1000 k "_law_tree" [eI cell_here, eI n]) (f_law_tree k cell_here n)
  | 0, _, _ => trivial
  | k + 1, cell_here, n => by
    rw [f_law_tree]
    refine fn_sim (fn := ⟨2, 9, K03.ir__law_tree⟩) (by rfl) (by rfl) trivial ?_
    change Sim _ _ _ (evSs (callP K03.T 1000 k) 1000 K03.ir__law_tree [.f (eI cell_here), .f (eI n), .u, .u, .u, .u, .u, .u, .u]) _
    unfold K03.ir__law_tree
    refine Sim.asgO flTr (by rfl) (fun parts => [.f (eI cell_here), .f (eI n), .o ((eL eTr) parts), .u, .u, .u, .u, .u, .u]) (Rf.to (by first | rfl | (simp only [R.assoc, bind_ok, bind_id, bind_id2]; done) | (simp only [R.assoc, bind_ok, bind_id, bind_id2]; rfl)) (x_co (e' := (eL eTr)) (f := (List.map Tr.leaf)) (x_bi1 (x_call2 (f := "_law_order") (x_v (e := eI) (a := cell_here) (by rfl)) (x_v (e := eI) (a := n) (by rfl)) (fun a0 a1 => sm_law_order  k a0 a1)) (b_lstT (e := eI))) (co_L co_leaf))) trivial (fun parts => by rfl) (fun parts => ?_)
    refine Sim.asgF flI (fun rest => [.f (eI cell_here), .f (eI n), .o ((eL eTr) parts), .f (eI rest), .u, .u, .u, .u, .u]) (Rf.to (by first | rfl | (simp only [R.assoc, bind_ok, bind_id, bind_id2]; done) | (simp only [R.assoc, bind_ok, bind_id, bind_id2]; rfl)) (x_call1 (f := "_law_rich") (x_op (x_op (x_v (e := eI) (a := cell_here) (by rfl)) (x_int (i := 3)) o_div) (x_int (i := 7)) o_add) (fun a0 => sm_law_rich  k a0))) trivial (fun rest => by rfl) (fun rest => ?_)
    refine Sim.for (mkL := fun (s2 : (List Tr) × Int) (j2 : Bool × Sl × Sl × Sl × Sl × Sl) => [.f (eI cell_here), .f (eI n), slb j2.1 ((eL eTr) s2.1), .f (eI s2.2), j2.2.1, j2.2.2.1, j2.2.2.2.1, j2.2.2.2.2.1, j2.2.2.2.2.2]) (env1 := fun step s2 j2 => [.f (eI cell_here), .f (eI n), slb j2.1 ((eL eTr) s2.1), .f (eI s2.2), .f (eI step), j2.2.2.1, j2.2.2.2.1, j2.2.2.2.2.1, j2.2.2.2.2.2]) (s0 := (parts, rest)) (j0 := (false, .u, .u, .u, .u, .u)) (e := eI) (Rf.to (by first | rfl | (simp only [R.assoc, bind_ok, bind_id, bind_id2]; done) | (simp only [R.assoc, bind_ok, bind_id, bind_id2]; rfl)) (n_r1 (x_int (i := 30)))) trivial rfl (fun step s2 j2 => by rfl) (fun step s2 j2 => ?_) (fun s2 j2 => ?_)
    · refine Sim.ite1 (by rfl) (Rf.to (by first | rfl | (simp only [R.assoc, bind_ok, bind_id, bind_id2]; done) | (simp only [R.assoc, bind_ok, bind_id, bind_id2]; rfl)) (x_cmp (x_bi1 (x_v (e := (eL eTr)) (a := s2.1) (by exact rd_slb)) (b_lenL (e := eTr))) (fun x => c_one (x_int (i := 2)) (fun y => m_lt x y)))) trivial ?_ ?_
      · exact Sim.brk (j := (j2.1, .f (eI step), j2.2.2.1, j2.2.2.2.1, j2.2.2.2.2.1, j2.2.2.2.2.2)) rfl
      refine Sim.asgF flI (fun size => [.f (eI cell_here), .f (eI n), slb j2.1 ((eL eTr) s2.1), .f (eI s2.2), .f (eI step), .f (eI size), j2.2.2.2.1, j2.2.2.2.2.1, j2.2.2.2.2.2]) (Rf.to (by first | rfl | (simp only [R.assoc, bind_ok, bind_id, bind_id2]; done) | (simp only [R.assoc, bind_ok, bind_id, bind_id2]; rfl)) (x_op (x_int (i := 2)) (x_op (x_bi1 (x_v (e := eI) (a := s2.2) (by rfl)) b_int) (x_int (i := 4)) o_mod) o_add)) trivial (fun size => by rfl) (fun size => ?_)
      refine Sim.iteJ (mk' := fun (s3 : Int) (j3 : Unit) => [.f (eI cell_here), .f (eI n), slb j2.1 ((eL eTr) s2.1), .f (eI s2.2), .f (eI step), .f (eI s3), j2.2.2.2.1, j2.2.2.2.2.1, j2.2.2.2.2.2]) (Rf.to (by first | rfl | (simp only [R.assoc, bind_ok, bind_id, bind_id2]; done) | (simp only [R.assoc, bind_ok, bind_id, bind_id2]; rfl)) (x_cmp (x_op (x_bi1 (x_op (x_v (e := eI) (a := s2.2) (by rfl)) (x_int (i := 1024)) o_div) b_int) (x_int (i := 8)) o_mod) (fun x => c_one (x_int (i := 5)) (fun y => m_eq q_I (by decide) x y)))) trivial ?_ ?_ (fun s3 j3 => ?_)
      · refine Sim.asgF flI (fun size1 => [.f (eI cell_here), .f (eI n), slb j2.1 ((eL eTr) s2.1), .f (eI s2.2), .f (eI step), .f (eI size1), j2.2.2.2.1, j2.2.2.2.2.1, j2.2.2.2.2.2]) (Rf.to (by first | rfl | (simp only [R.assoc, bind_ok, bind_id, bind_id2]; done) | (simp only [R.assoc, bind_ok, bind_id, bind_id2]; rfl)) (x_int (i := 24))) trivial (fun size1 => by rfl) (fun size1 => ?_)
        exact Sim.nil (j := ()) rfl
      · exact Sim.nil (j := ()) rfl
      refine Sim.asgF flI (fun at_ => [.f (eI cell_here), .f (eI n), slb j2.1 ((eL eTr) s2.1), .f (eI s2.2), .f (eI step), .f (eI s3), .f (eI at_), j2.2.2.2.2.1, j2.2.2.2.2.2]) (Rf.to (by first | rfl | (simp only [R.assoc, bind_ok, bind_id, bind_id2]; done) | (simp only [R.assoc, bind_ok, bind_id, bind_id2]; rfl)) (x_op (x_bi1 (x_op (x_v (e := eI) (a := s2.2) (by rfl)) (x_int (i := 4)) o_div) b_int) (x_bi1 (x_v (e := (eL eTr)) (a := s2.1) (by exact rd_slb)) (b_lenL (e := eTr))) o_mod)) trivial (fun at_ => by rfl) (fun at_ => ?_)
      refine Sim.asgL (by rfl) (fun chosen => [.f (eI cell_here), .f (eI n), .f ((eL eTr) s2.1), .f (eI s2.2), .f (eI step), .f (eI s3), .f (eI at_), .f ((eL eTr) chosen), (frz1 false j2.2.2.2.2.2)]) (Rf.to (by first | rfl | (simp only [R.assoc, bind_ok, bind_id, bind_id2]; done) | (simp only [R.assoc, bind_ok, bind_id, bind_id2]; rfl)) (x_sl (x_v (e := (eL eTr)) (a := s2.1) (by exact rd_slb)) (o_yes (x_v (e := eI) (a := at_) (by rfl))) (o_yes (x_op (x_v (e := eI) (a := at_) (by rfl)) (x_v (e := eI) (a := s3) (by rfl)) o_add)) (s_L (e := eTr)))) trivial (fun chosen => set_frz (frz_c rfl (frz_c rfl (frz_c frz1_et (frz_c rfl (frz_c rfl (frz_c rfl (frz_c rfl (frz_c rfl (frz_c rfl rfl))))))))) rfl) (fun chosen => ?_)
      refine Sim.iteJ (mk' := fun (s4 : (List Tr)) (j4 : Sl) => [.f (eI cell_here), .f (eI n), .f ((eL eTr) s4), .f (eI s2.2), .f (eI step), .f (eI s3), .f (eI at_), .f ((eL eTr) chosen), j4]) (Rf.to (by first | rfl | (simp only [R.assoc, bind_ok, bind_id, bind_id2]; done) | (simp only [R.assoc, bind_ok, bind_id, bind_id2]; rfl)) (x_cmp (x_bi1 (x_v (e := (eL eTr)) (a := chosen) (by rfl)) (b_lenL (e := eTr))) (fun x => c_one (x_int (i := 1)) (fun y => m_gt x y)))) trivial ?_ ?_ (fun s4 j4 => ?_)
      · refine Sim.asgF flW (fun word => [.f (eI cell_here), .f (eI n), .f ((eL eTr) s2.1), .f (eI s2.2), .f (eI step), .f (eI s3), .f (eI at_), .f ((eL eTr) chosen), .f (eW word)]) (Rf.to (by first | rfl | (simp only [R.assoc, bind_ok, bind_id, bind_id2]; done) | (simp only [R.assoc, bind_ok, bind_id, bind_id2]; rfl)) x_wa) trivial (fun word => by rfl) (fun word => ?_)
        refine Sim.iteJ (mk' := fun (s5 : Bool) (j5 : Unit) => [.f (eI cell_here), .f (eI n), .f ((eL eTr) s2.1), .f (eI s2.2), .f (eI step), .f (eI s3), .f (eI at_), .f ((eL eTr) chosen), .f (eW s5)]) (Rf.to (by first | rfl | (simp only [R.assoc, bind_ok, bind_id, bind_id2]; done) | (simp only [R.assoc, bind_ok, bind_id, bind_id2]; rfl)) (x_and (x_cmp (x_bi1 (x_v (e := (eL eTr)) (a := chosen) (by rfl)) (b_lenL (e := eTr))) (fun x => c_one (x_int (i := 2)) (fun y => m_gt x y))) (x_cmp (x_op (x_bi1 (x_op (x_v (e := eI) (a := s2.2) (by rfl)) (x_int (i := 64)) o_div) b_int) (x_int (i := 2)) o_mod) (fun x => c_one (x_int (i := 1)) (fun y => m_eq q_I (by decide) x y))))) trivial ?_ ?_ (fun s5 j5 => ?_)
        · refine Sim.asgF flW (fun word1 => [.f (eI cell_here), .f (eI n), .f ((eL eTr) s2.1), .f (eI s2.2), .f (eI step), .f (eI s3), .f (eI at_), .f ((eL eTr) chosen), .f (eW word1)]) (Rf.to (by first | rfl | (simp only [R.assoc, bind_ok, bind_id, bind_id2]; done) | (simp only [R.assoc, bind_ok, bind_id, bind_id2]; rfl)) x_wr) trivial (fun word1 => by rfl) (fun word1 => ?_)
          exact Sim.nil (j := ()) rfl
        · exact Sim.nil (j := ()) rfl
        refine Sim.asgL (by rfl) (fun parts1 => [.f (eI cell_here), .f (eI n), .f ((eL eTr) parts1), .f (eI s2.2), .f (eI step), .f (eI s3), .f (eI at_), .f ((eL eTr) chosen), .f (eW s5)]) (Rf.to (by first | rfl | (simp only [R.assoc, bind_ok, bind_id, bind_id2]; done) | (simp only [R.assoc, bind_ok, bind_id, bind_id2]; rfl)) (x_op (x_op (x_sl (x_v (e := (eL eTr)) (a := s2.1) (by rfl)) o_no (o_yes (x_v (e := eI) (a := at_) (by rfl))) (s_L (e := eTr))) (x_lst (es_cons (x_node (x_v (e := eW) (a := s5) (by rfl)) (x_bi1 (x_v (e := (eL eTr)) (a := chosen) (by rfl)) (b_tupL (e := eTr)))) (es_nil (e := eTr)))) (o_catL (e := eTr))) (x_sl (x_v (e := (eL eTr)) (a := s2.1) (by rfl)) (o_yes (x_op (x_v (e := eI) (a := at_) (by rfl)) (x_v (e := eI) (a := s3) (by rfl)) o_add)) o_no (s_L (e := eTr))) (o_catL (e := eTr)))) trivial (fun parts1 => set_frz rfl rfl) (fun parts1 => ?_)
        exact Sim.nil (j := (.f (eW s5))) rfl
      · exact Sim.nil (j := ((frz1 false j2.2.2.2.2.2))) rfl
      refine Sim.asgF flI (fun rest1 => [.f (eI cell_here), .f (eI n), .f ((eL eTr) s4), .f (eI rest1), .f (eI step), .f (eI s3), .f (eI at_), .f ((eL eTr) chosen), j4]) (Rf.to (by first | rfl | (simp only [R.assoc, bind_ok, bind_id, bind_id2]; done) | (simp only [R.assoc, bind_ok, bind_id, bind_id2]; rfl)) (x_op (x_op (x_op (x_v (e := eI) (a := s2.2) (by rfl)) (x_int (i := 5)) o_div) (x_op (x_int (i := 1000003)) (x_v (e := eI) (a := step) (by rfl)) o_mul) o_add) (x_int (i := 17)) o_add)) trivial (fun rest1 => by rfl) (fun rest1 => ?_)
      exact Sim.nil (j := (true, .f (eI step), .f (eI s3), .f (eI at_), .f ((eL eTr) chosen), j4)) rfl
    refine Sim.iteJ (mk' := fun (s6 : (List Tr)) (j6 : Bool) => [.f (eI cell_here), .f (eI n), slb j6 ((eL eTr) s6), .f (eI s2.2), j2.2.1, j2.2.2.1, j2.2.2.2.1, j2.2.2.2.2.1, j2.2.2.2.2.2]) (Rf.to (by first | rfl | (simp only [R.assoc, bind_ok, bind_id, bind_id2]; done) | (simp only [R.assoc, bind_ok, bind_id, bind_id2]; rfl)) (x_cmp (x_bi1 (x_v (e := (eL eTr)) (a := s2.1) (by exact rd_slb)) (b_lenL (e := eTr))) (fun x => c_one (x_int (i := 1)) (fun y => m_gt x y)))) trivial ?_ ?_ (fun s6 j6 => ?_)
    · refine Sim.asgO flTr (by rfl) (fun parts2 => [.f (eI cell_here), .f (eI n), .o ((eL eTr) parts2), .f (eI s2.2), j2.2.1, j2.2.2.1, j2.2.2.2.1, j2.2.2.2.2.1, j2.2.2.2.2.2]) (Rf.to (by first | rfl | (simp only [R.assoc, bind_ok, bind_id, bind_id2]; done) | (simp only [R.assoc, bind_ok, bind_id, bind_id2]; rfl)) (x_lst (es_cons (x_node x_wa (x_bi1 (x_v (e := (eL eTr)) (a := s2.1) (by exact rd_slb)) (b_tupL (e := eTr)))) (es_nil (e := eTr))))) trivial (fun parts2 => by rfl) (fun parts2 => ?_)
      exact Sim.nil (j := (false)) rfl
    · exact Sim.nil (j := (j2.1)) rfl
    exact Sim.ret (Rf.to (by first | rfl | (simp only [R.assoc, bind_ok, bind_id, bind_id2]; done) | (simp only [R.assoc, bind_ok, bind_id, bind_id2]; rfl)) (x_ix (x_v (e := (eL eTr)) (a := s6) (by exact rd_slb)) (x_int (i := 0)) (i_L (e := eTr)))) trivial
theorem sm_law_has_form : ∀ (k : Nat) (tree_here : Bt), Rf eB (callP K03.T 1000 k "_law_has_form" [eBt tree_here]) (f_law_has_form k tree_here)
  | 0, _ => trivial
  | k + 1, tree_here => by
    rw [f_law_has_form]
    refine fn_sim (fn := ⟨1, 2, K03.ir__law_has_form⟩) (by rfl) (by rfl) trivial ?_
    change Sim _ _ _ (evSs (callP K03.T 1000 k) 1000 K03.ir__law_has_form [.f (eBt tree_here), .u]) _
    unfold K03.ir__law_has_form
    refine Sim.ite1 (by rfl) (Rf.to (by first | rfl | (simp only [R.assoc, bind_ok, bind_id, bind_id2]; done) | (simp only [R.assoc, bind_ok, bind_id, bind_id2]; rfl)) (x_bi1 (x_v (e := eBt) (a := tree_here) (by rfl)) b_isIntBt)) trivial ?_ ?_
    · exact Sim.ret (Rf.to (by first | rfl | (simp only [R.assoc, bind_ok, bind_id, bind_id2]; done) | (simp only [R.assoc, bind_ok, bind_id, bind_id2]; rfl)) x_bl) trivial
    refine Sim.ite1 (by rfl) (Rf.to (by first | rfl | (simp only [R.assoc, bind_ok, bind_id, bind_id2]; done) | (simp only [R.assoc, bind_ok, bind_id, bind_id2]; rfl)) (x_or (x_cmp (x_bi1 (x_v (e := eBt) (a := tree_here) (by rfl)) b_lenBt) (fun x => c_one (x_int (i := 2)) (fun y => m_ne q_I (by decide) x y))) (x_or (x_cmp (x_wordB (x_v (e := eBt) (a := tree_here) (by rfl))) (fun x => c_one (x_lst (es_cons x_qany (es_cons x_qrow (es_nil (e := eQ))))) (fun y => m_ninL q_Q (by decide) x y))) (x_cmp (x_bi1 (x_partsB (x_v (e := eBt) (a := tree_here) (by rfl))) (b_lenT (e := eBt))) (fun x => c_one (x_op (x_int (i := 2)) (x_bi1 (x_cmp (x_wordB (x_v (e := eBt) (a := tree_here) (by rfl))) (fun x => c_one x_qrow (fun y => m_eq q_Q (by decide) x y))) b_intB) o_add) (fun y => m_lt x y)))))) trivial ?_ ?_
    · exact Sim.ret (Rf.to (by first | rfl | (simp only [R.assoc, bind_ok, bind_id, bind_id2]; done) | (simp only [R.assoc, bind_ok, bind_id, bind_id2]; rfl)) x_bl) trivial
    exact Sim.ret (Rf.to (by first | rfl | (simp only [R.assoc, bind_ok, bind_id, bind_id2]; done) | (simp only [R.assoc, bind_ok, bind_id, bind_id2]; rfl)) (x_cmp (x_lc (e1 := eBt) (e := eBt) (p := fun part => (((f_law_has_form k part)).bind fun t11 => .ok (!t11))) (g := fun part => (.ok part)) (fun part => [.f (eBt tree_here), .f (eBt part)]) (n_T (x_partsB (x_v (e := eBt) (a := tree_here) (by rfl)))) (fun part => by rfl) (fun part => t_yes (Rf.to (by first | rfl | (simp only [R.assoc, bind_ok, bind_id, bind_id2]; done) | (simp only [R.assoc, bind_ok, bind_id, bind_id2]; rfl)) (x_not (x_call1 (f := "_law_has_form") (x_v (e := eBt) (a := part) (by rfl)) (fun a0 => sm_law_has_form  k a0))))) (fun part => (Rf.to (by first | rfl | (simp only [R.assoc, bind_ok, bind_id, bind_id2]; done) | (simp only [R.assoc, bind_ok, bind_id, bind_id2]; rfl)) (x_v (e := eBt) (a := part) (by rfl))))) (fun x => c_oneV (x_lst (es_nil (e := eBt))) (m_eqNil x [] rfl)))) trivial
theorem sm_law_bent_2 : ∀ (k : Nat) (tree_here : Bt) (rest : Int), Rf eBt (callP K03.T 1000 k "_law_bent" [eBt tree_here, eI rest]) (f_law_bent_2 k tree_here rest)
  | 0, _, _ => trivial
  | k + 1, tree_here, rest => by
    rw [f_law_bent_2]
    refine fn_sim (fn := ⟨2, 4, K03.ir__law_bent⟩) (by rfl) (by rfl) trivial ?_
    change Sim _ _ _ (evSs (callP K03.T 1000 k) 1000 K03.ir__law_bent [.f (eBt tree_here), .f (eI rest), .u, .u]) _
    unfold K03.ir__law_bent
    refine Sim.asgF flI (fun kind => [.f (eBt tree_here), .f (eI rest), .f (eI kind), .u]) (Rf.to (by first | rfl | (simp only [R.assoc, bind_ok, bind_id, bind_id2]; done) | (simp only [R.assoc, bind_ok, bind_id, bind_id2]; rfl)) (x_op (x_bi1 (x_v (e := eI) (a := rest) (by rfl)) b_int) (x_int (i := 8)) o_mod)) trivial (fun kind => by rfl) (fun kind => ?_)
    refine Sim.ite1 (by rfl) (Rf.to (by first | rfl | (simp only [R.assoc, bind_ok, bind_id, bind_id2]; done) | (simp only [R.assoc, bind_ok, bind_id, bind_id2]; rfl)) (x_bi1 (x_v (e := eBt) (a := tree_here) (by rfl)) b_isIntBt)) trivial ?_ ?_
    · exact Sim.ret (Rf.to (by first | rfl | (simp only [R.assoc, bind_ok, bind_id, bind_id2]; done) | (simp only [R.assoc, bind_ok, bind_id, bind_id2]; rfl)) (x_ix (x_lst (es_cons (x_co (e' := eBt) (f := Bt.leaf) (x_op (x_cop (e' := eI) (x_v (e := eBt) (a := tree_here) (by rfl)) cp_thingB) (x_int (i := 1)) o_add) co_leafB) (es_cons (x_co (e' := eBt) (f := Bt.leaf) (x_op (x_cop (e' := eI) (x_v (e := eBt) (a := tree_here) (by rfl)) cp_thingB) (x_int (i := 1)) o_sub) co_leafB) (es_cons (x_nodeB x_qany (x_tup (es_cons (x_v (e := eBt) (a := tree_here) (by rfl)) (es_nil (e := eBt))))) (es_cons (x_nodeB x_qany (x_tup (es_cons (x_v (e := eBt) (a := tree_here) (by rfl)) (es_cons (x_v (e := eBt) (a := tree_here) (by rfl)) (es_nil (e := eBt)))))) (es_cons (x_v (e := eBt) (a := tree_here) (by rfl)) (es_cons (x_co (e' := eBt) (f := Bt.leaf) (x_int (i := 0)) co_leafB) (es_cons (x_nodeB x_qrow (x_tup (es_cons (x_v (e := eBt) (a := tree_here) (by rfl)) (es_cons (x_co (e' := eBt) (f := Bt.leaf) (x_op (x_cop (e' := eI) (x_v (e := eBt) (a := tree_here) (by rfl)) cp_thingB) (x_int (i := 1)) o_add) co_leafB) (es_nil (e := eBt)))))) (es_cons (x_co (e' := eBt) (f := Bt.leaf) (x_bi1 (x_int (i := 1)) b_neg) co_leafB) (es_nil (e := eBt))))))))))) (x_v (e := eI) (a := kind) (by rfl)) (i_L (e := eBt)))) trivial
    refine Sim.ite1 (by rfl) (Rf.to (by first | rfl | (simp only [R.assoc, bind_ok, bind_id, bind_id2]; done) | (simp only [R.assoc, bind_ok, bind_id, bind_id2]; rfl)) (x_cmp (x_v (e := eI) (a := kind) (by rfl)) (fun x => c_one (x_int (i := 0)) (fun y => m_eq q_I (by decide) x y)))) trivial ?_ ?_
    · exact Sim.ret (Rf.to (by first | rfl | (simp only [R.assoc, bind_ok, bind_id, bind_id2]; done) | (simp only [R.assoc, bind_ok, bind_id, bind_id2]; rfl)) (x_nodeB (x_ix (x_lst (es_cons x_qall (es_cons x_qno (es_cons x_qcap (es_cons x_qrow (es_cons x_qany (es_nil (e := eQ)))))))) (x_op (x_bi1 (x_op (x_v (e := eI) (a := rest) (by rfl)) (x_int (i := 8)) o_div) b_int) (x_int (i := 5)) o_mod) (i_L (e := eQ))) (x_partsB (x_v (e := eBt) (a := tree_here) (by rfl))))) trivial
    refine Sim.ite1 (by rfl) (Rf.to (by first | rfl | (simp only [R.assoc, bind_ok, bind_id, bind_id2]; done) | (simp only [R.assoc, bind_ok, bind_id, bind_id2]; rfl)) (x_cmp (x_v (e := eI) (a := kind) (by rfl)) (fun x => c_one (x_int (i := 1)) (fun y => m_eq q_I (by decide) x y)))) trivial ?_ ?_
    · exact Sim.ret (Rf.to (by first | rfl | (simp only [R.assoc, bind_ok, bind_id, bind_id2]; done) | (simp only [R.assoc, bind_ok, bind_id, bind_id2]; rfl)) (x_nodeB (x_wordB (x_v (e := eBt) (a := tree_here) (by rfl))) (x_sl (x_partsB (x_v (e := eBt) (a := tree_here) (by rfl))) (o_yes (x_int (i := 1))) o_no (s_T (e := eBt))))) trivial
    refine Sim.ite1 (by rfl) (Rf.to (by first | rfl | (simp only [R.assoc, bind_ok, bind_id, bind_id2]; done) | (simp only [R.assoc, bind_ok, bind_id, bind_id2]; rfl)) (x_cmp (x_v (e := eI) (a := kind) (by rfl)) (fun x => c_one (x_int (i := 2)) (fun y => m_eq q_I (by decide) x y)))) trivial ?_ ?_
    · exact Sim.ret (Rf.to (by first | rfl | (simp only [R.assoc, bind_ok, bind_id, bind_id2]; done) | (simp only [R.assoc, bind_ok, bind_id, bind_id2]; rfl)) (x_nodeB (x_wordB (x_v (e := eBt) (a := tree_here) (by rfl))) (x_op (x_partsB (x_v (e := eBt) (a := tree_here) (by rfl))) (x_sl (x_partsB (x_v (e := eBt) (a := tree_here) (by rfl))) o_no (o_yes (x_int (i := 1))) (s_T (e := eBt))) (o_catT (e := eBt))))) trivial
    refine Sim.ite1 (by rfl) (Rf.to (by first | rfl | (simp only [R.assoc, bind_ok, bind_id, bind_id2]; done) | (simp only [R.assoc, bind_ok, bind_id, bind_id2]; rfl)) (x_and (x_cmp (x_v (e := eI) (a := kind) (by rfl)) (fun x => c_one (x_int (i := 3)) (fun y => m_eq q_I (by decide) x y))) (x_cmp (x_op (x_bi1 (x_op (x_v (e := eI) (a := rest) (by rfl)) (x_int (i := 8)) o_div) b_int) (x_int (i := 3)) o_mod) (fun x => c_one (x_int (i := 0)) (fun y => m_eq q_I (by decide) x y))))) trivial ?_ ?_
    · exact Sim.ret (Rf.to (by first | rfl | (simp only [R.assoc, bind_ok, bind_id, bind_id2]; done) | (simp only [R.assoc, bind_ok, bind_id, bind_id2]; rfl)) (x_nodeB3 (x_wordB (x_v (e := eBt) (a := tree_here) (by rfl))) (x_partsB (x_v (e := eBt) (a := tree_here) (by rfl))))) trivial
    refine Sim.asgF flI (fun at_ => [.f (eBt tree_here), .f (eI rest), .f (eI kind), .f (eI at_)]) (Rf.to (by first | rfl | (simp only [R.assoc, bind_ok, bind_id, bind_id2]; done) | (simp only [R.assoc, bind_ok, bind_id, bind_id2]; rfl)) (x_op (x_bi1 (x_op (x_v (e := eI) (a := rest) (by rfl)) (x_int (i := 8)) o_div) b_int) (x_bi1 (x_partsB (x_v (e := eBt) (a := tree_here) (by rfl))) (b_lenT (e := eBt))) o_mod)) trivial (fun at_ => by rfl) (fun at_ => ?_)
    exact Sim.ret (Rf.to (by first | rfl | (simp only [R.assoc, bind_ok, bind_id, bind_id2]; done) | (simp only [R.assoc, bind_ok, bind_id, bind_id2]; rfl)) (x_nodeB (x_wordB (x_v (e := eBt) (a := tree_here) (by rfl))) (x_op (x_op (x_sl (x_partsB (x_v (e := eBt) (a := tree_here) (by rfl))) o_no (o_yes (x_v (e := eI) (a := at_) (by rfl))) (s_T (e := eBt))) (x_tup (es_cons (x_call2 (f := "_law_bent") (x_ix (x_partsB (x_v (e := eBt) (a := tree_here) (by rfl))) (x_v (e := eI) (a := at_) (by rfl)) (i_T (e := eBt))) (x_op (x_v (e := eI) (a := rest) (by rfl)) (x_int (i := 64)) o_div) (fun a0 a1 => sm_law_bent_2  k a0 a1)) (es_nil (e := eBt)))) (o_catT (e := eBt))) (x_sl (x_partsB (x_v (e := eBt) (a := tree_here) (by rfl))) (o_yes (x_op (x_v (e := eI) (a := at_) (by rfl)) (x_int (i := 1)) o_add)) o_no (s_T (e := eBt))) (o_catT (e := eBt))))) trivial
theorem sm_law : ∀ (k : Nat) (script : (List Int)), Rf eB (callP K03.T 1000 k "law" [(eL eI) script]) (f_law k script)
  | 0, _ => trivial
  | k + 1, script => by
    rw [f_law]
    refine fn_sim (fn := ⟨1, 8, K03.ir_law⟩) (by rfl) (by rfl) trivial ?_
    change Sim _ _ _ (evSs (callP K03.T 1000 k) 1000 K03.ir_law [.f ((eL eI) script), .u, .u, .u, .u, .u, .u, .u]) _
    unfold K03.ir_law
    refine Sim.asgL (by rfl) (fun d => [.f ((eL eI) script), .f ((eL eI) d), .u, .u, .u, .u, .u, .u]) (Rf.to (by first | rfl | (simp only [R.assoc, bind_ok, bind_id, bind_id2]; done) | (simp only [R.assoc, bind_ok, bind_id, bind_id2]; rfl)) (x_call2 (f := "_law_digits") (x_call1 (f := "_law_rich") (x_call2 (f := "_law_cell") (x_v (e := (eL eI)) (a := script) (by rfl)) (x_int (i := 0)) (fun a0 a1 => sm_law_cell  k a0 a1)) (fun a0 => sm_law_rich  k a0)) (x_lst (es_cons (x_int (i := 24)) (es_cons (x_int (i := 2)) (es_cons (x_int (i := 4)) (es_cons (x_int (i := 4)) (es_nil (e := eI))))))) (fun a0 a1 => sm_law_digits  k a0 a1))) trivial (fun d => set_frz rfl rfl) (fun d => ?_)
    refine Sim.asgF flI (fun n => [.f ((eL eI) script), .f ((eL eI) d), .f (eI n), .u, .u, .u, .u, .u]) (Rf.to (by first | rfl | (simp only [R.assoc, bind_ok, bind_id, bind_id2]; done) | (simp only [R.assoc, bind_ok, bind_id, bind_id2]; rfl)) (x_op (x_int (i := 1)) (x_ix (x_v (e := (eL eI)) (a := d) (by rfl)) (x_int (i := 0)) (i_L (e := eI))) o_add)) trivial (fun n => by rfl) (fun n => ?_)
    refine Sim.asgF flBt (fun tree_here => [.f ((eL eI) script), .f ((eL eI) d), .f (eI n), .f (eBt tree_here), .u, .u, .u, .u]) (Rf.to (by first | rfl | (simp only [R.assoc, bind_ok, bind_id, bind_id2]; done) | (simp only [R.assoc, bind_ok, bind_id, bind_id2]; rfl)) (x_co (e' := eBt) (f := toBt) (x_call2 (f := "_law_tree") (x_call2 (f := "_law_cell") (x_v (e := (eL eI)) (a := script) (by rfl)) (x_int (i := 1)) (fun a0 a1 => sm_law_cell  k a0 a1)) (x_v (e := eI) (a := n) (by rfl)) (fun a0 a1 => sm_law_tree  k a0 a1)) co_trB)) trivial (fun tree_here => by rfl) (fun tree_here => ?_)
    refine Sim.ite1 (by rfl) (Rf.to (by first | rfl | (simp only [R.assoc, bind_ok, bind_id, bind_id2]; done) | (simp only [R.assoc, bind_ok, bind_id, bind_id2]; rfl)) (x_cmp (x_call1 (f := "things_of") (x_v (e := eBt) (a := tree_here) (by rfl)) (fun a0 => sm_things_of_1  k a0)) (fun x => c_one (x_bi1 (x_lci (e := eI) (fun thing => [.f ((eL eI) script), .f ((eL eI) d), .f (eI n), .f (eBt tree_here), .u, .u, .u, .f (eI thing)]) (n_r1 (x_v (e := eI) (a := n) (by rfl))) (fun thing => by rfl) (fun thing => (Rf.to (by first | rfl | (simp only [R.assoc, bind_ok, bind_id, bind_id2]; done) | (simp only [R.assoc, bind_ok, bind_id, bind_id2]; rfl)) (x_v (e := eI) (a := thing) (by rfl))))) (b_tupL (e := eI))) (fun y => m_ne (q_T q_I) (by decide) x y)))) trivial ?_ ?_
    · exact Sim.ret (Rf.to (by first | rfl | (simp only [R.assoc, bind_ok, bind_id, bind_id2]; done) | (simp only [R.assoc, bind_ok, bind_id, bind_id2]; rfl)) x_bl) trivial
    refine Sim.asgF flI (fun size => [.f ((eL eI) script), .f ((eL eI) d), .f (eI n), .f (eBt tree_here), .f (eI size), .u, .u, .u]) (Rf.to (by first | rfl | (simp only [R.assoc, bind_ok, bind_id, bind_id2]; done) | (simp only [R.assoc, bind_ok, bind_id, bind_id2]; rfl)) (x_v (e := eI) (a := n) (by rfl))) trivial (fun size => by rfl) (fun size => ?_)
    refine Sim.iteJ (mk' := fun (s : Bt × Int) (j : Unit) => [.f ((eL eI) script), .f ((eL eI) d), .f (eI n), .f (eBt s.1), .f (eI s.2), .u, .u, .u]) (Rf.to (by first | rfl | (simp only [R.assoc, bind_ok, bind_id, bind_id2]; done) | (simp only [R.assoc, bind_ok, bind_id, bind_id2]; rfl)) (x_cmp (x_ix (x_v (e := (eL eI)) (a := d) (by rfl)) (x_int (i := 1)) (i_L (e := eI))) (fun x => c_one (x_int (i := 1)) (fun y => m_eq q_I (by decide) x y)))) trivial ?_ ?_ (fun s j => ?_)
    · refine Sim.iteJ (mk' := fun (s1 : Bt × Int) (j1 : Unit) => [.f ((eL eI) script), .f ((eL eI) d), .f (eI n), .f (eBt s1.1), .f (eI s1.2), .u, .u, .u]) (Rf.to (by first | rfl | (simp only [R.assoc, bind_ok, bind_id, bind_id2]; done) | (simp only [R.assoc, bind_ok, bind_id, bind_id2]; rfl)) (x_cmp (x_ix (x_v (e := (eL eI)) (a := d) (by rfl)) (x_int (i := 2)) (i_L (e := eI))) (fun x => c_one (x_int (i := 0)) (fun y => m_eq q_I (by decide) x y)))) trivial ?_ ?_ (fun s1 j1 => ?_)
      · refine Sim.asgF flI (fun size1 => [.f ((eL eI) script), .f ((eL eI) d), .f (eI n), .f (eBt tree_here), .f (eI size1), .u, .u, .u]) (Rf.to (by first | rfl | (simp only [R.assoc, bind_ok, bind_id, bind_id2]; done) | (simp only [R.assoc, bind_ok, bind_id, bind_id2]; rfl)) (x_ix (x_lst (es_cons (x_op (x_v (e := eI) (a := n) (by rfl)) (x_int (i := 1)) o_add) (es_cons (x_op (x_v (e := eI) (a := n) (by rfl)) (x_int (i := 1)) o_sub) (es_cons (x_int (i := 25)) (es_cons (x_int (i := 0)) (es_nil (e := eI))))))) (x_ix (x_v (e := (eL eI)) (a := d) (by rfl)) (x_int (i := 3)) (i_L (e := eI))) (i_L (e := eI)))) trivial (fun size1 => by rfl) (fun size1 => ?_)
        exact Sim.nil (j := ()) rfl
      · refine Sim.iteJ (mk' := fun (s2 : Bt × Int) (j2 : Unit) => [.f ((eL eI) script), .f ((eL eI) d), .f (eI n), .f (eBt s2.1), .f (eI s2.2), .u, .u, .u]) (Rf.to (by first | rfl | (simp only [R.assoc, bind_ok, bind_id, bind_id2]; done) | (simp only [R.assoc, bind_ok, bind_id, bind_id2]; rfl)) (x_and (x_cmp (x_ix (x_v (e := (eL eI)) (a := d) (by rfl)) (x_int (i := 2)) (i_L (e := eI))) (fun x => c_one (x_int (i := 1)) (fun y => m_eq q_I (by decide) x y))) (x_cmp (x_ix (x_v (e := (eL eI)) (a := d) (by rfl)) (x_int (i := 3)) (i_L (e := eI))) (fun x => c_one (x_int (i := 0)) (fun y => m_eq q_I (by decide) x y))))) trivial ?_ ?_ (fun s2 j2 => ?_)
        · refine Sim.asgF flI (fun size2 => [.f ((eL eI) script), .f ((eL eI) d), .f (eI n), .f (eBt tree_here), .f (eI size2), .u, .u, .u]) (Rf.to (by first | rfl | (simp only [R.assoc, bind_ok, bind_id, bind_id2]; done) | (simp only [R.assoc, bind_ok, bind_id, bind_id2]; rfl)) (x_int (i := 25))) trivial (fun size2 => by rfl) (fun size2 => ?_)
          refine Sim.asgF flBt (fun tree_here1 => [.f ((eL eI) script), .f ((eL eI) d), .f (eI n), .f (eBt tree_here1), .f (eI size2), .u, .u, .u]) (Rf.to (by first | rfl | (simp only [R.assoc, bind_ok, bind_id, bind_id2]; done) | (simp only [R.assoc, bind_ok, bind_id, bind_id2]; rfl)) (x_nodeB x_qany (x_bi1 (x_lca (e1 := eI) (e := eBt) (g := fun thing1 => (Bt.leaf thing1)) (fun thing1 => [.f ((eL eI) script), .f ((eL eI) d), .f (eI n), .f (eBt tree_here), .f (eI size2), .u, .u, .f (eI thing1)]) (n_r1 (x_int (i := 25))) (fun thing1 => by rfl) (fun thing1 => (Rf.to (by first | rfl | (simp only [R.assoc, bind_ok, bind_id, bind_id2]; done) | (simp only [R.assoc, bind_ok, bind_id, bind_id2]; rfl)) (x_co (e' := eBt) (f := Bt.leaf) (x_v (e := eI) (a := thing1) (by rfl)) co_leafB)))) (b_tupL (e := eBt))))) trivial (fun tree_here1 => by rfl) (fun tree_here1 => ?_)
          exact Sim.nil (j := ()) rfl
        · refine Sim.asgF flBt (fun tree_here2 => [.f ((eL eI) script), .f ((eL eI) d), .f (eI n), .f (eBt tree_here2), .f (eI size), .u, .u, .u]) (Rf.to (by first | rfl | (simp only [R.assoc, bind_ok, bind_id, bind_id2]; done) | (simp only [R.assoc, bind_ok, bind_id, bind_id2]; rfl)) (x_call2 (f := "_law_bent") (x_v (e := eBt) (a := tree_here) (by rfl)) (x_call1 (f := "_law_rich") (x_call2 (f := "_law_cell") (x_v (e := (eL eI)) (a := script) (by rfl)) (x_int (i := 2)) (fun a0 a1 => sm_law_cell  k a0 a1)) (fun a0 => sm_law_rich  k a0)) (fun a0 a1 => sm_law_bent_2  k a0 a1))) trivial (fun tree_here2 => by rfl) (fun tree_here2 => ?_)
          exact Sim.nil (j := ()) rfl
        exact Sim.nil (j := ()) rfl
      exact Sim.nil (j := ()) rfl
    · exact Sim.nil (j := ()) rfl
    refine Sim.asgF flB (fun good => [.f ((eL eI) script), .f ((eL eI) d), .f (eI n), .f (eBt s.1), .f (eI s.2), .f (eB good), .u, .u]) (Rf.to (by first | rfl | (simp only [R.assoc, bind_ok, bind_id, bind_id2]; done) | (simp only [R.assoc, bind_ok, bind_id, bind_id2]; rfl)) (x_andp (x_call1 (f := "_law_has_form") (x_v (e := eBt) (a := s.1) (by rfl)) (fun a0 => sm_law_has_form  k a0)) (x_andp (x_cmp (x_int (i := 1)) (fun x => c_one (x_v (e := eI) (a := s.2) (by rfl)) (fun y => m_le x y))) (x_cmp (x_v (e := eI) (a := s.2) (by rfl)) (fun x => c_one (x_int (i := 24)) (fun y => m_le x y)))))) trivial (fun good => by rfl) (fun good => ?_)
    refine Sim.asgF flB (fun good1 => [.f ((eL eI) script), .f ((eL eI) d), .f (eI n), .f (eBt s.1), .f (eI s.2), .f (eB good1), .u, .u]) (Rf.to (by first | rfl | (simp only [R.assoc, bind_ok, bind_id, bind_id2]; done) | (simp only [R.assoc, bind_ok, bind_id, bind_id2]; rfl)) (x_and (x_v (e := eB) (a := good) (by rfl)) (x_cmp (x_bi1 (x_call1 (f := "_law_things") (x_v (e := eBt) (a := s.1) (by rfl)) (fun a0 => sm_law_things_1  k a0)) b_sortL) (fun x => c_one (x_lci (e := eI) (fun thing2 => [.f ((eL eI) script), .f ((eL eI) d), .f (eI n), .f (eBt s.1), .f (eI s.2), .f (eB good), .u, .f (eI thing2)]) (n_r1 (x_v (e := eI) (a := s.2) (by rfl))) (fun thing2 => by rfl) (fun thing2 => (Rf.to (by first | rfl | (simp only [R.assoc, bind_ok, bind_id, bind_id2]; done) | (simp only [R.assoc, bind_ok, bind_id, bind_id2]; rfl)) (x_v (e := eI) (a := thing2) (by rfl))))) (fun y => m_eq (q_L q_I) (by decide) x y))))) trivial (fun good1 => by rfl) (fun good1 => ?_)
    refine Sim.tryN (mk' := fun (s3 : Unit) (j3 : Unit) => [.f ((eL eI) script), .f ((eL eI) d), .f (eI n), .f (eBt s.1), .f (eI s.2), .f (eB good1), .u, .u]) (mkX := fun (jx : Unit) => [.f ((eL eI) script), .f ((eL eI) d), .f (eI n), .f (eBt s.1), .f (eI s.2), .f (eB good1), .u, .u]) (mkH := fun (s3 : Unit) (j3 : Unit) => [.f ((eL eI) script), .f ((eL eI) d), .f (eI n), .f (eBt s.1), .f (eI s.2), .f (eB good1), .u, .u]) (fun ex jx => [.f ((eL eI) script), .f ((eL eI) d), .f (eI n), .f (eBt s.1), .f (eI s.2), .f (eB good1), .x ex, .u]) (fun _ => trivial) ?_ (fun ex jx => rfl) (fun ex jx => ?_) (fun s3 j3 => ⟨j3, rfl⟩) (fun s3 j3 => ?_)
    · exact Sim.ret (Rf.to (by first | rfl | (simp only [R.assoc, bind_ok, bind_id, bind_id2]; done) | (simp only [R.assoc, bind_ok, bind_id, bind_id2]; rfl)) (x_andp (x_cmp (x_call2 (f := "check_tree") (x_v (e := eI) (a := s.2) (by rfl)) (x_v (e := eBt) (a := s.1) (by rfl)) (fun a0 a1 => sm_check_tree_1  k a0 a1)) (fun x => c_one (x_v (e := eBt) (a := s.1) (by rfl)) (fun y => m_eqBt x y))) (x_v (e := eB) (a := good1) (by rfl)))) ⟨(), rfl⟩
    · exact Sim.ret (Rf.to (by first | rfl | (simp only [R.assoc, bind_ok, bind_id, bind_id2]; done) | (simp only [R.assoc, bind_ok, bind_id, bind_id2]; rfl)) (x_andp (x_not (x_v (e := eB) (a := good1) (by rfl))) (x_andp (x_isx (by rfl)) (x_not (x_isx (by rfl)))))) trivial
    trivial
end K03
set_option Elab.async false
set_option linter.all false
set_option maxRecDepth 100000
namespace K03
open PySem PC
open Classical in
theorem formL_ok : ∀ {k : Nat} {t : Bt}, t.dp + 1 ≤ k → t.dp ≤ 30 → f_law_has_form k t = .ok (decide t.Fm) := by
  intro k
  induction k with
  | zero => intro t h; omega
  | succ k ih =>
    intro t h hd
    rw [f_law_has_form]
    cases t with
    | leaf i =>
      rw [decide_eq_true (show (Bt.leaf i).Fm by simp [Bt.Fm])]
      rfl
    | node w ps x =>
      have hpd : ∀ p ∈ ps, p.dp ≤ 30 := fun p m => by have := dp_part (w := w) (x := x) m; omega
      have hp : compR (fun part => (((f_law_has_form k part)).bind fun t11 => .ok (!t11))) (fun part => (R.ok part)) ps = .ok (ps.filter fun p => !decide p.Fm) := by
        rw [compR_ok (q := fun p => !decide p.Fm) (h := fun x => x) (fun p m => ?_) fun x m _ => rfl, List.map_id']
        rw [ih (by have := dp_part (w := w) (x := x) m; omega) (hpd p m)]; rfl
      have hn := eqNil_bt (l := ps.filter fun p => !decide p.Fm) fun p m => hpd p (List.mem_filter.mp m).1
      have ha : (ps.filter fun p => !decide p.Fm).isEmpty = true ↔ ∀ p ∈ ps, p.Fm := by
        rw [List.isEmpty_iff, List.filter_eq_nil_iff]
        simp
      simp only [Bt.isLeaf, cnd_ok, Bool.false_eq_true, if_false, Bt.len, Bt.word, Bt.parts, bnd_ok, hp, hn]
      have hm : memB w [Wd.any, Wd.row] = decide (w = .any ∨ w = .row) := by cases w <;> rfl
      rw [hm]
      cases x with
      | true =>
        rw [decide_eq_false (fun q : (Bt.node w ps true).Fm => by have := (Fm_node.mp q).1; cases this)]
        rfl
      | false =>
        by_cases hw : w = .any ∨ w = .row
        · rw [decide_eq_true hw]
          simp only [Bool.false_eq_true, if_false, decide_true, Bool.not_true]
          by_cases c : ((ps.length : Nat) : Int) < 2 + (if decide (w = Wd.row) = true then (1 : Int) else 0)
          · rw [decide_eq_true c, decide_eq_false (fun q : (Bt.node w ps false).Fm => by
              obtain ⟨_, _, q2, q3, _⟩ := Fm_node.mp q
              by_cases hr : w = .row
              · have := q3 hr
                simp only [hr, decide_true, if_true] at c
                omega
              · simp only [hr, decide_false, Bool.false_eq_true, if_false] at c
                omega)]
            rfl
          · rw [decide_eq_false c]
            simp only [cnd_ok, Bool.false_eq_true, if_false, letR_ok, run_rt]
            congr 1
            rw [Bool.eq_iff_iff, ha, decide_eq_true_eq, Fm_node]
            refine ⟨fun q => ⟨rfl, hw, ?_, fun hr => ?_, q⟩, fun q => q.2.2.2.2⟩
            · by_cases hr : w = .row
              · simp only [hr, decide_true, if_true] at c
                omega
              · simp only [hr, decide_false, Bool.false_eq_true, if_false] at c
                omega
            · simp only [hr, decide_true, if_true] at c
              omega
        · rw [decide_eq_false hw, decide_eq_false (fun q : (Bt.node w ps false).Fm => hw (Fm_node.mp q).2.1)]
          rfl
theorem bent_ok : ∀ {k : Nat} {t : Bt} {rest : Int}, t.Fm → t.dp + 1 ≤ k → t.lvs.length ≤ 1000 → ∃ r, f_law_bent_2 k t rest = .ok r ∧ r.dp ≤ t.dp + 1 ∧ r.lvs.length ≤ 2 * t.lvs.length := by
  intro k
  induction k with
  | zero => intro t rest hf h; omega
  | succ k ih =>
    intro t rest hf h hl
    rw [f_law_bent_2, tmod_ok (show (0 : Int) < 8 by decide), letR_ok]
    have k0 : 0 ≤ rest % 8 := Int.emod_nonneg _ (by decide)
    have k1 : rest % 8 < 8 := Int.emod_lt_of_pos _ (by decide)
    cases t with
    | leaf i =>
      simp only [Bt.isLeaf, cnd_ok, if_true, Bt.thing, bnd_ok]
      generalize rest % 8 = z at k0 k1
      have e : z = 0 ∨ z = 1 ∨ z = 2 ∨ z = 3 ∨ z = 4 ∨ z = 5 ∨ z = 6 ∨ z = 7 := by omega
      rcases e with rfl | rfl | rfl | rfl | rfl | rfl | rfl | rfl
      all_goals exact ⟨_, rfl, by simp [Bt.dp, dpB], by simp [Bt.lvs, lvsB]⟩
    | node w ps x =>
      obtain ⟨rfl, hw, h2, h3, hp⟩ := Fm_node.mp hf
      simp only [Bt.lvs] at hl
      have d1 : (Bt.node w ps false).dp = dpB ps + 1 := by simp [Bt.dp]
      have t8 := tdiv_ok (i := rest) (show (0 : Int) < 8 by decide) (by decide)
      have t64 := tdiv_ok (i := rest) (show (0 : Int) < 64 by decide) (by decide)
      simp only [Bt.isLeaf, cnd_ok, Bool.false_eq_true, if_false, Bt.word, Bt.parts, bnd_ok, t8, t64, tmod_ok (show (0 : Int) < 5 by decide), tmod_ok (show (0 : Int) < 3 by decide)]
      have sub : ∀ qs : List Bt, (∀ p ∈ qs, p ∈ ps) → dpB qs ≤ dpB ps := fun qs hq => dpB_lub fun p m => dpB_le (hq p m)
      by_cases c0 : rest % 8 = 0
      · rw [decide_eq_true c0]
        have z0 : 0 ≤ rest / 8 % 5 := Int.emod_nonneg _ (by decide)
        have z1 : rest / 8 % 5 < 5 := Int.emod_lt_of_pos _ (by decide)
        have : (rest / 8 % 5).toNat < [Wd.all, Wd.no, Wd.cap, Wd.row, Wd.any].length := by simp; omega
        rw [atL_int z0 this]
        exact ⟨_, rfl, by simp [Bt.dp], by simp only [Bt.lvs]; omega⟩
      rw [decide_eq_false c0]
      by_cases c1 : rest % 8 = 1
      · rw [decide_eq_true c1, cut_drop (show (0 : Int) ≤ 1 by omega)]
        refine ⟨_, rfl, ?_, ?_⟩
        · have := sub (ps.drop (Int.toNat 1)) fun p m => List.mem_of_mem_drop m
          simp only [Bt.dp]; omega
        · have e := congrArg (fun l => (lvsB l).length) (List.take_append_drop (Int.toNat 1) ps)
          simp only [lvsB_append, List.length_append] at e
          simp only [Bt.lvs]; omega
      rw [decide_eq_false c1]
      have pl : ps.length ≤ (lvsB ps).length := by
        clear h2 h3 hl ih d1 sub hf
        induction ps with
        | nil => simp
        | cons p r ihp =>
          have a := ihp (by simp only [Bt.dp] at h ⊢; simp only [dpB] at h; omega) fun q m => hp q (List.mem_cons_of_mem _ m)
          obtain ⟨p', rfl⟩ := of_Fm p (hp p List.mem_cons_self)
          have b := leaves_pos p' ((to_lvs p').2.2.mp (hp _ List.mem_cons_self))
          simp only [lvsB, List.length_append, List.length_cons, (to_lvs p').1]
          omega
      by_cases c2 : rest % 8 = 2
      · rw [decide_eq_true c2, cut_take (show (0 : Int) ≤ 1 by omega), catL_ok (by rw [List.length_take]; omega)]
        refine ⟨_, rfl, ?_, ?_⟩
        · have := sub (ps ++ ps.take (Int.toNat 1)) fun p m => (List.mem_append.mp m).elim id List.mem_of_mem_take
          simp only [Bt.dp]; omega
        · have e := congrArg (fun l => (lvsB l).length) (List.take_append_drop (Int.toNat 1) ps)
          simp only [lvsB_append, List.length_append] at e
          simp only [Bt.lvs, lvsB_append, List.length_append]; omega
      rw [decide_eq_false c2]
      simp only [Bool.false_eq_true, if_false]
      have rest_ok : ∃ r, Fl.run (letR (tmod (rest / 8) (ps.length : Int)) fun at_ =>
          letR ((((((atL ps at_).bind fun t34 => f_law_bent_2 k t34 (rest / 64)).bind fun t36 => R.ok [t36]).bind fun t38 => catL (cutL ps none (some at_)) t38).bind fun t40 => catL t40 (cutL ps (some (at_ + 1)) none)).bind fun t43 => R.ok (Bt.node w t43 false)) fun v => .rt v) (.st : R Bt) = .ok r ∧ r.dp ≤ (Bt.node w ps false).dp + 1 ∧ r.lvs.length ≤ 2 * (lvsB ps).length := by
        have z0 : 0 ≤ rest / 8 % (ps.length : Int) := Int.emod_nonneg _ (by omega)
        have z1 : rest / 8 % (ps.length : Int) < ps.length := Int.emod_lt_of_pos _ (by omega)
        rw [tmod_ok (show (0 : Int) < (ps.length : Int) by omega), letR_ok]
        generalize rest / 8 % (ps.length : Int) = z at z0 z1
        have hz : z.toNat < ps.length := by omega
        have mz := List.getElem_mem hz
        have dz := dpB_le mz
        have lz := lvsB_le mz
        obtain ⟨r, er, rd, rl⟩ := ih (t := ps[z.toNat]) (rest := rest / 64) (hp _ mz) (by rw [d1] at h; omega) (by omega)
        rw [atL_int z0 hz, bnd_ok, er, bnd_ok, cut_take z0, cut_drop (show 0 ≤ z + 1 by omega)]
        simp only [bnd_ok]
        rw [catL_ok (a := ps.take z.toNat) (b := [r]) (by rw [List.length_take]; simp; omega)]
        simp only [bnd_ok]
        rw [catL_ok (a := ps.take z.toNat ++ [r]) (b := ps.drop (z + 1).toNat) (by simp only [List.length_append, List.length_take, List.length_drop, List.length_singleton]; omega)]
        refine ⟨_, rfl, ?_, ?_⟩
        · rw [d1]
          simp only [Bt.dp]
          have : dpB (ps.take z.toNat ++ [r] ++ ps.drop (z + 1).toNat) ≤ dpB ps + 1 := dpB_lub fun p m => by
            rcases List.mem_append.mp m with m | m
            · rcases List.mem_append.mp m with m | m
              · have := dpB_le (List.mem_of_mem_take m); omega
              · rw [List.mem_singleton.mp m]; omega
            · have := dpB_le (List.mem_of_mem_drop m); omega
          omega
        · have e := congrArg (fun l => (lvsB l).length) (List.take_append_drop z.toNat ps)
          have e2 := List.drop_eq_getElem_cons hz
          have e3 : (z + 1).toNat = z.toNat + 1 := by omega
          rw [e2] at e
          simp only [lvsB_append, List.length_append, lvsB] at e
          simp only [Bt.lvs, lvsB_append, List.length_append, lvsB, e3, List.append_nil, List.length_nil]
          omega
      by_cases c3 : rest % 8 = 3
      · rw [decide_eq_true c3]
        simp only [if_true]
        by_cases c4 : rest / 8 % 3 = 0
        · rw [decide_eq_true c4]
          exact ⟨_, rfl, by simp [Bt.dp], by simp only [Bt.lvs]; omega⟩
        · rw [decide_eq_false c4]
          obtain ⟨r, er, h⟩ := rest_ok
          exact ⟨r, er, by simpa [Bt.lvs] using h⟩
      · rw [decide_eq_false c3]
        obtain ⟨r, er, h⟩ := rest_ok
        exact ⟨r, er, by simpa [Bt.lvs] using h⟩
open Classical in
theorem law_true (ns : List Int) : f_law 201 ns = .ok true := by
  rw [f_law]
  have c0 := cell_ok (k := 200) (ns := ns) (i := 0) (by decide) (by decide)
  have c1 := cell_ok (k := 200) (ns := ns) (i := 1) (by decide) (by decide)
  have c2 := cell_ok (k := 200) (ns := ns) (i := 2) (by decide) (by decide)
  generalize ns.getD (Int.toNat 0) 0 = x0 at c0
  generalize ns.getD (Int.toNat 1) 0 = x1 at c1
  generalize ns.getD (Int.toNat 2) 0 = x2 at c2
  have r0 : ∀ c, f_law_rich 200 c = .ok (rich c) := fun c => rich_ok (by decide)
  have dg := digits_ok (k := 200) (c := rich x0) (l := [24, 2, 4, 4]) (by decide) (by decide) (by decide)
  obtain ⟨d0, e0, a0, b0⟩ := digits_at (l := [24, 2, 4, 4]) (c := rich x0) (i := 0) (s := 24) rfl (by decide)
  obtain ⟨d1, e1, a1, b1⟩ := digits_at (l := [24, 2, 4, 4]) (c := rich x0) (i := 1) (s := 2) rfl (by decide)
  obtain ⟨d2, e2, a2, b2⟩ := digits_at (l := [24, 2, 4, 4]) (c := rich x0) (i := 2) (s := 4) rfl (by decide)
  obtain ⟨d3, e3, a3, b3⟩ := digits_at (l := [24, 2, 4, 4]) (c := rich x0) (i := 3) (s := 4) rfl (by decide)
  have e0 : atL (digits (rich x0) [24, 2, 4, 4]) 0 = .ok d0 := e0
  have e1 : atL (digits (rich x0) [24, 2, 4, 4]) 1 = .ok d1 := e1
  have e2 : atL (digits (rich x0) [24, 2, 4, 4]) 2 = .ok d2 := e2
  have e3 : atL (digits (rich x0) [24, 2, 4, 4]) 3 = .ok d3 := e3
  obtain ⟨n, hn⟩ : ∃ n : Nat, 1 + d0 = (n : Int) := ⟨(1 + d0).toNat, by omega⟩
  have n0 : 0 < n := by omega
  have n1 : n ≤ 24 := by omega
  obtain ⟨t', et, hO⟩ := tree_ok (k := 200) (n := n) (c := x1) n0 n1 (by decide)
  obtain ⟨q1, q2, q3⟩ := to_lvs t'
  have hf : (toBt t').Fm := q3.mpr hO.form
  have hd : (toBt t').dp ≤ 24 := by have := hO.dep; omega
  have hl : (toBt t').lvs.length = n := by rw [q1]; exact hO.len
  have hs : isort (toBt t').lvs = iota 0 n := by rw [q1]; exact isort_iota.mpr hO.perm
  have th : f_things_of_1 200 (toBt t') = .ok (iota 0 n) := by
    show f_things_of_1 (199 + 1) (toBt t') = _
    rw [f_things_of_1, has_formB (show (toBt t').dp + 2 ≤ 199 by omega), listedB (show (toBt t').dp + 2 ≤ 199 by omega) (by omega), decide_eq_true hf]
    have en : lenSetR (iota 0 n) = .ok (n : Int) := by
      unfold lenSetR
      rw [if_pos (by rw [iota_len]; omega), nodupI_id (iota_nodup n 0), iota_len]
    have ef : atL (iota 0 n) 0 = .ok 0 := by
      exact atL_nat (l := iota 0 n) (i := 0) (a := 0) (by rw [iota_get?, if_pos n0]; rfl)
    simp only [bnd_ok, Bool.not_true, cnd_ok, Bool.false_eq_true, if_false, hs, letR_ok, ef, en, iota_len, show decide ((0 : Int) < 0) = false from rfl, decide_eq_false (show ¬ ((n : Int) < (n : Int)) by omega)]
    rfl
  have rn : rng 0 (n : Int) = .ok (iota 0 n) := rng0 (by omega)
  simp only [c0, bnd_ok, r0, dg, letR_ok, e0, hn, c1, et, th, rn, decide_true, Bool.not_true, cnd_ok, Bool.false_eq_true, if_false]
  -- whatever is asked
  have last : ∀ (t : Bt) (s : Int), t.dp ≤ 27 → t.lvs.length ≤ 1000 → -1000 ≤ s → s ≤ 1000 → Fl.run (letR (((f_law_has_form 200 t)).bind fun t19 => .ok (t19 && ((decide (1 ≤ s)) && (decide (s ≤ 24))))) fun good =>
    letR (if good then (((((f_law_things_1 200 t)).bind fun t20 => .ok (isort t20))).bind fun t22 => ((((rng 0 s)).bind fun t21 => .ok t21)).bind fun t23 => .ok (decide (t22 = t23))) else .ok false) fun good1 =>
    Fl.seq (tryF (letR (((((f_check_tree_1 200 s t)).bind fun t24 => (eqBtB t24 t))).bind fun t25 => .ok (t25 && good1)) fun v => .rt v) ["UnpartedError", "InvalidTable", "InvalidTree"] "InvalidTree" fun ex =>
      (letR (.ok ((!good1) && ((subC ex "UnpartedError") && (!(subC ex "InvalidTable"))))) fun v => .rt v)) fun (s3 : Unit) =>
    .st) (.st : R Bool) = .ok true := by
    intro t s h1 h2 h3 h4
    rw [formL_ok (show t.dp + 1 ≤ 200 by omega) (by omega), check_treeB (show t.dp + 3 ≤ 200 by omega) (by omega), law_thingsB (show t.dp + 1 ≤ 200 by omega) (by omega), rng_ok (by omega) (by omega) (by omega) (by omega), Int.sub_zero]
    have hg : (decide t.Fm && (decide (1 ≤ s) && decide (s ≤ 24))) = decide (t.Fm ∧ 1 ≤ s ∧ s ≤ 24) := by simp
    simp only [bnd_ok, letR_ok, hg]
    by_cases c : (1 ≤ s ∧ s ≤ 24) ∧ t.Fm ∧ isort t.lvs = iota 0 s.toNat
    · rw [if_pos c, decide_eq_true (⟨c.2.1, c.1⟩ : t.Fm ∧ 1 ≤ s ∧ s ≤ 24), decide_eq_true c.2.2]
      simp only [bnd_ok, if_true, letR_ok, eqBt_self c.2.1 (show t.dp ≤ 31 by omega)]
      rfl
    · rw [if_neg c]
      have e : (if decide (t.Fm ∧ 1 ≤ s ∧ s ≤ 24) = true then R.ok (decide (isort t.lvs = iota 0 s.toNat)) else .ok false) = .ok false := by
        by_cases c1 : t.Fm ∧ 1 ≤ s ∧ s ≤ 24
        · rw [decide_eq_true c1, if_pos rfl, decide_eq_false fun q => c ⟨c1.2, c1.1, q⟩]
        · rw [decide_eq_false c1]; rfl
      rw [e]
      rfl
  have dd : digits (rich x0) [24, 2, 4, 4] = [d0, d1, d2, d3] := by
    have f0 : atL (digits (rich x0) [24, 2, 4, 4]) 0 = .ok (rich x0 % 24) := rfl
    have f1 : atL (digits (rich x0) [24, 2, 4, 4]) 1 = .ok (rich x0 / 24 % 2) := rfl
    have f2 : atL (digits (rich x0) [24, 2, 4, 4]) 2 = .ok (rich x0 / 24 / 2 % 4) := rfl
    have f3 : atL (digits (rich x0) [24, 2, 4, 4]) 3 = .ok (rich x0 / 24 / 2 / 4 % 4) := rfl
    rw [e0] at f0; rw [e1] at f1; rw [e2] at f2; rw [e3] at f3
    rw [R.ok.inj f0, R.ok.inj f1, R.ok.inj f2, R.ok.inj f3]; rfl
  rw [e1, bnd_ok]
  by_cases g1 : d1 = 1
  · rw [decide_eq_true g1, cnd_ok, if_pos rfl, e2, bnd_ok]
    by_cases g2 : d2 = 0
    · rw [decide_eq_true g2, cnd_ok, if_pos rfl, e3, bnd_ok]
      have : d3.toNat < [(n : Int) + 1, (n : Int) - 1, 25, 0].length := by simp; omega
      obtain ⟨s, es, s0, s1⟩ : ∃ s, atL [(n : Int) + 1, (n : Int) - 1, 25, 0] d3 = .ok s ∧ -1000 ≤ s ∧ s ≤ 1000 := by
        have h : d3 = 0 ∨ d3 = 1 ∨ d3 = 2 ∨ d3 = 3 := by omega
        rcases h with rfl | rfl | rfl | rfl
        · exact ⟨_, rfl, by omega, by omega⟩
        · exact ⟨_, rfl, by omega, by omega⟩
        · exact ⟨_, rfl, by omega, by omega⟩
        · exact ⟨_, rfl, by omega, by omega⟩
      rw [es, letR_ok]
      simp only [seq_nx]
      exact last _ _ (by omega) (by omega) s0 s1
    · rw [decide_eq_false g2, cnd_ok, if_neg Bool.false_ne_true]
      have ec : (((R.ok d2).bind fun t8 => R.ok (decide (t8 = 1))).bind fun t13 => (if t13 then (((atL (digits (rich x0) [24, 2, 4, 4]) 3)).bind fun t12 => .ok (decide (t12 = 0))) else .ok false)) = .ok (decide (d2 = 1 ∧ d3 = 0)) := by
        rw [bnd_ok, bnd_ok]
        by_cases g4 : d2 = 1
        · rw [decide_eq_true g4, if_pos rfl, e3, bnd_ok]
          by_cases g5 : d3 = 0
          · rw [decide_eq_true g5, decide_eq_true ⟨g4, g5⟩]
          · rw [decide_eq_false g5, decide_eq_false fun q => g5 q.2]
        · rw [decide_eq_false g4, decide_eq_false fun q => g4 q.1]; rfl
      rw [ec, cnd_ok]
      by_cases g3 : d2 = 1 ∧ d3 = 0
      · rw [decide_eq_true g3, if_pos rfl]
        have r25 : rng 0 25 = .ok (iota 0 25) := rng0 (n := 25) (by decide)
        rw [r25]
        simp only [letR_ok, bnd_ok, seq_nx]
        exact last _ _ (by decide) (by decide) (by decide) (by decide)
      · rw [decide_eq_false g3, if_neg Bool.false_ne_true, c2, bnd_ok, bnd_ok]
        obtain ⟨r, er, rd, rl⟩ := bent_ok (k := 200) (t := toBt t') (rest := rich x2) hf (by omega) (by omega)
        rw [er, letR_ok]
        simp only [seq_nx]
        exact last _ _ (by omega) (by omega) (by omega) (by omega)
  · rw [decide_eq_false g1, cnd_ok, if_neg Bool.false_ne_true]
    simp only [seq_nx]
    exact last _ _ (by omega) (by omega) (by omega) (by omega)
theorem plain (ns : List Int) (h : ns.length ≤ 63) : callP T 1000 201 "law" [.list (ns.map .int)] = .ok (.bool true) := (sm_law 201 ns).val (law_true ns)
end K03
set_option maxHeartbeats 0
open PySem PySem.W PySem.Calls PyProof.Rows
theorem PySem.Challenge.cw_unpartedrows_k03_trees_holds : PySem.Challenge.rw_unpartedrows_k03_trees.Holds := by
  w_on; o_law
  refine HandSHeadRun.head_any (r := OpenLaw.row PySem.Challenge.rw_unpartedrows_k03_trees) (q := view (OpenLaw.row PySem.Challenge.rw_unpartedrows_k03_trees).prog [23]) (H := K03.hk) (ob := K03.ob) (M := 4000) (loose := K03.names) (d := HandSHeadRun.topDef (OpenLaw.row PySem.Challenge.rw_unpartedrows_k03_trees).prog 23) (kwd := []) K03.ob_eq
    (by kernel_rfl) (fun s => by kernel_rfl) K03.run (by kernel_rfl) (by kernel_rfl) (by kernel_rfl) (by rfl) (by first | assumption | decide +kernel) (by decide +kernel) ⟨rfl, rfl, rfl, rfl, rfl, by decide +kernel⟩ ?hw ?hc
  case hw => w_witness2
  case hc => exact PC.walk_PC (l := PySem.Challenge.rw_unpartedrows_k03_trees) (n := 63) (k := 200) (g := K03.g) (fn := K03.fn) (T := K03.T) (fu := 1000) (nm := "law") rfl (by decide) (by kernel_rfl) (by kernel_rfl) ⟨rfl, by decide, by decide⟩ (by kernel_rfl) K03.all_ok (fun K mg says hg => K03.ok_law K mg says (hg _ _ rfl)) K03.prs_ok K03.plain
