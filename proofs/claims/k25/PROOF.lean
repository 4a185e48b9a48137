import PyProof.Rows.All
import HandS.ForMost
import HandS.ForExc
import KE.SortData
import KE.DataMinMax
import KE.DataCmp
import HandS.Conv
import HandS.SortRule
import HandS.SortInts
import HandS.Wide
import HandS.TupMul
import HandS.TupAny
import HandS.TupLe
import HandS.Deep
import HandS.IsInst
import HandS.ExcIs
import HandS.Zip
import HandS.RevTup
import HandS.DictComp
import HandS.Style
import HandS.ExcOwn
import HandS.TryMany
import HandS.SetFor
import KE.KIndexOf
import KE.KStateDown
import HandS.Ends
import HandS.Words
import HandS.WordsExc
import HandS.Defaults
import HandS.Head0
import HandS.Head1
import HandS.Head2
import HandS.HeadEnd
import HandS.HeadHook1
import HandS.HeadHook2
import PySem.Challenge.RW_unpartedrows_k25_whole_pruned_trees
set_option Elab.async false
set_option linter.all false
set_option maxRecDepth 100000
set_option maxHeartbeats 0
set_option Elab.async false
set_option linter.all false
/-! PC1: a small pure core of Python: data (PyData), an intermediate language, its evaluator. -/
namespace PC
open PySem
abbrev D := PyData
inductive R (α : Type) where
  | ok (a : α) | ex (c : Str) | st
def R.bind {α β : Type} : R α → (α → R β) → R β
  | .ok a, f => f a
  | .ex c, _ => .ex c
  | .st, _ => .st
/-- inside a block an exception may not leave -/
def R.calm {α : Type} : R α → R α
  | .ex _ => .st
  | r => r
/-- a slot: unassigned, an owned list or dict, a shared value, a caught exception -/
inductive Sl where
  | u | o (d : D) | f (d : D) | x (c : Str)
abbrev Env := List Sl
inductive Op where
  | add | sub | mul | div | mod | pow
inductive Cm where
  | eq | ne | lt | le | gt | ge | in_ | nin
inductive T where
  | n (i : Nat) | t (is : List Nat)
def T.ids : T → List Nat
  | .n i => [i]
  | .t is => is
inductive Bi where
  | len | int | abs | neg | min1 | max1 | min2 | max2 | sorted | tuple | list | sum | all | any | str | lenSet
  | listR1 | listR2 | tupR1 | tupR2 | isInt | isStr | isBool | isTup | tix (l : List Str) | isNone | notNone | inC (l : List D) | ninC (l : List D)
inductive Mt where
  | index | count | join | split
mutual
inductive E where
  | v (i : Nat) | int (i : Int) | str (s : Str) | bl (b : Bool) | non
  | not (a : E) | and (a b : E) | or (a b : E)
  | op (o : Op) (a b : E)
  | cmp (a : E) (r : Cs)
  | tup (es : Es) | lst (es : Es)
  | ix (a b : E) | sl (a : E) (lo hi : Oe) | rev (a : E)
  | call (f : Str) (es : Es) | bi (b : Bi) (es : Es) | mth (m : Mt) (a b : E)
  | lc (own : List Nat) (t : T) (it : I) (c : Oe) (elt : E)
  | dc (own : List Nat) (t : T) (it : I) (k w : E)
  | dsp (es : Es)
  | isx (i : Nat) (c : Str)
inductive Es where
  | nil | cons (a : E) (r : Es)
inductive Cs where
  | one (c : Cm) (b : E) | more (c : Cm) (b : E) (r : Cs)
inductive Oe where
  | no | yes (a : E)
inductive I where
  | e (a : E) | r1 (a : E) | r2 (a b : E) | r3 (a b c : E) | en (a : E)
end
inductive S where
  | asg (t : T) (e : E)
  | par (i j : Nat) (a b : E)
  | aug (i : Nat) (o : Op) (e : E)
  | app (i : Nat) (e : E) | appPop (i j : Nat) (e : E) | popTo (i j : Nat) (e : Oe)
  | ext (i : Nat) (e : E) | rvs (i : Nat) | srt (i : Nat) | ins (i : Nat) (a b : E) | rem (i : Nat) (e : E)
  | setIx (i : Nat) (a b : E)
  | exp (e : E)
  | ite (c : E) (a b : List S)
  | for_ (t : T) (it : I) (b : List S)
  | whl (c : E) (b : List S)
  | ret (e : E) | retN | raise (c : Str) | brk | pas
  | try_ (b : List S) (ks : List Str) (c : Str) (n : Option Nat) (s : List S)
/-! ### small functions on data -/
def asInts : List D → Option (List Int)
  | [] => some []
  | .int i :: r => (asInts r).map (i :: ·)
  | _ :: _ => none
def asBools : List D → Option (List Bool)
  | [] => some []
  | .bool b :: r => (asBools r).map (b :: ·)
  | _ :: _ => none
def asPairs : List D → Option (List (Int × Int))
  | [] => some []
  | .tuple [.int i, .int j] :: r => (asPairs r).map ((i, j) :: ·)
  | _ :: _ => none
def insI (x : Int) : List Int → List Int
  | [] => [x]
  | y :: r => if x ≤ y then x :: y :: r else y :: insI x r
def isort : List Int → List Int
  | [] => []
  | x :: r => insI x (isort r)
def ltP (p q : Int × Int) : Bool := if p.1 = q.1 then decide (p.2 < q.2) else decide (p.1 < q.1)
def insP (x : Int × Int) : List (Int × Int) → List (Int × Int)
  | [] => [x]
  | y :: r => if ltP y x then y :: insP x r else x :: y :: r
def psort : List (Int × Int) → List (Int × Int)
  | [] => []
  | x :: r => insP x (psort r)
def minL (x : Int) : List Int → Int
  | [] => x
  | y :: r => minL (if y < x then y else x) r
def maxL (x : Int) : List Int → Int
  | [] => x
  | y :: r => maxL (if y > x then y else x) r
def minPL (x : Int × Int) : List (Int × Int) → Int × Int
  | [] => x
  | y :: r => minPL (if ltP y x then y else x) r
def dP (p : Int × Int) : D := .tuple [.int p.1, .int p.2]
def iota (lo : Int) : Nat → List Int
  | 0 => []
  | n + 1 => lo :: iota (lo + 1) n
mutual
/-- no list, no dict within -/
def flat : D → Bool
  | .none | .bool _ | .int _ | .str _ => true
  | .tuple l => flatAll l
  | .list _ | .dict _ => false
def flatAll : List D → Bool
  | [] => true
  | d :: r => flat d && flatAll r
end
def isMut : D → Bool
  | .list _ | .dict _ => true
  | _ => false
def flt : R Bool → R D
  | .ok b => .ok (.bool b)
  | .ex c => .ex c
  | .st => .st
def ltD : D → D → R Bool
  | .int i, .int j => .ok (decide (i < j))
  | .tuple a, .tuple b => match asInts a, asInts b with
    | some ns, some ms => .ok (HT.lexLt ns ms)
    | _, _ => if W.alikeAll a b && W.alikeAll b a && decide (PyData.depthAll a ≤ 60) && decide (PyData.depthAll b ≤ 60) then .ok (W.dataLt (.tuple a) (.tuple b)) else .st
  | _, _ => .st
def sortOk (l : List D) : Bool := (l.all fun d => l.all fun e => W.alike d e) && ((l.all fun d => match d with | .tuple (_ :: _) => true | _ => false) || l.all fun d => match d with | .none => false | .tuple _ => false | _ => true) && decide (PyData.depthAll l ≤ 60)
def notR : R Bool → R Bool
  | .ok b => .ok (!b)
  | .ex c => .ex c
  | .st => .st
def scalD : D → D → Bool
  | .int _, .int _ => true
  | .bool _, .bool _ => true
  | .str _, .str _ => true
  | .none, .none => true
  | _, _ => false
def eqD (a b : D) : R Bool := if scalD a b || (SeqAt.shaped a && SeqAt.shaped b) then .ok (PyData.eqv a b) else .st
def lookD (k : D) : List (D × D) → Option D
  | [] => none
  | (a, v) :: r => if PyData.eqv a k then some v else lookD k r
def isKey : D → Bool
  | .int _ => true
  | .str _ => true
  | .tuple l => (asInts l).isSome
  | _ => false
def inD (a b : D) : R Bool := match b with
  | .list l => if SeqAt.shaped a && SeqAt.shaped (.list l) then .ok (l.any fun z => PyData.eqv z a) else .st
  | .tuple l => if SeqAt.shaped a && SeqAt.shaped (.tuple l) then .ok (l.any fun z => PyData.eqv z a) else .st
  | .dict kvs => if isKey a then .ok (lookD a kvs).isSome else .st
  | .str t => match a with
    | .str s => .ok (!(Builtin.Str.occurrences t s 0 t.length 1).isEmpty)
    | _ => .st
  | _ => .st
def evCm : Cm → D → D → R Bool
  | .eq, a, b => eqD a b
  | .ne, a, b => notR (eqD a b)
  | .lt, a, b => ltD a b
  | .le, a, b => notR (ltD b a)
  | .gt, a, b => ltD b a
  | .ge, a, b => notR (ltD a b)
  | .in_, a, b => inD a b
  | .nin, a, b => notR (inD a b)
def mulOk (i j : Int) : Bool := i.natAbs.ble 18446744073709551615 || j.natAbs.ble 18446744073709551615 || (i.natAbs.log2 + j.natAbs.log2).ble 999999
theorem mulOk_iff {i j : Int} (h : mulOk i j = true) : ((-(2 ^ 64) < i ∧ i < 2 ^ 64) ∨ (-(2 ^ 64) < j ∧ j < 2 ^ 64)) ∨ i.natAbs.log2 + j.natAbs.log2 < 1000000 := by
  simp only [mulOk, Bool.or_eq_true] at h
  rcases h with (h | h) | h
  · have := Nat.le_of_ble_eq_true h
    exact .inl (.inl (by omega))
  · have := Nat.le_of_ble_eq_true h
    exact .inl (.inr (by omega))
  · have := Nat.le_of_ble_eq_true h
    exact .inr (by omega)
def evOp : Op → D → D → R D
  | .add, .int i, .int j => .ok (.int (i + j))
  | .add, .str s, .str t => if s.length + t.length ≤ sizeLine then .ok (.str (s ++ t)) else .st
  | .add, .tuple a, .tuple b => if a.length + b.length ≤ sizeLine then .ok (.tuple (a ++ b)) else .st
  | .add, .list a, .list b => if a.length + b.length ≤ sizeLine then .ok (.list (a ++ b)) else .st
  | .sub, .int i, .int j => .ok (.int (i - j))
  | .mul, .int i, .int j => if mulOk i j then .ok (.int (i * j)) else .st
  | .mul, .list a, .int k => if 0 ≤ k ∧ k < 2 ^ 60 ∧ a.length * k.toNat ≤ sizeLine then .ok (.list (List.replicate k.toNat a).flatten) else .st
  | .mul, .tuple a, .int k => if 2 ≤ k ∧ k ≤ 1000 ∧ 1 ≤ a.length ∧ a.length ≤ 1000 then .ok (.tuple (List.replicate k.toNat a).flatten) else .st
  | .div, .int i, .int j => if 0 < j ∧ j.natAbs.log2 < 9000 then .ok (.int (i / j)) else .st
  | .mod, .int i, .int j => if 0 < j then .ok (.int (i % j)) else .st
  | .pow, .int i, .int j => if 0 ≤ j ∧ j ≤ 1000000 ∧ i.natAbs < 2 ^ 64 then .ok (.int (i ^ j.toNat)) else .st
  | _, _, _ => .st
def getAt (l : List D) (i : Int) : R D := match L2.atI l i with
  | some d => .ok d
  | none => .st
def evIx : D → D → R D
  | .list l, .int i => getAt l i
  | .tuple l, .int i => getAt l i
  | .dict kvs, k => if isKey k then (match lookD k kvs with | some d => .ok d | none => .st) else .st
  | .str s, .int i => if s.length ≤ sizeLine then (match L2.atI s.cps.toList i with | some c => .ok (.str ⟨#[c]⟩) | none => .st) else .st
  | _, _ => .st
def cutD (l : List D) (lo hi : Option Int) : List D := (l.drop (HT.sIx l.length 0 lo)).take (HT.sIx l.length l.length hi - HT.sIx l.length 0 lo)
def evSl : D → Option Int → Option Int → R D
  | .list l, lo, hi => .ok (.list (cutD l lo hi))
  | .tuple l, lo, hi => .ok (.tuple (cutD l lo hi))
  | .str s, lo, hi => if s.length ≤ sizeLine then .ok (.str (L2.cutS s lo hi)) else .st
  | _, _, _ => .st
def rgOk (a b : Int) : Bool := a.natAbs.ble 1000000000000000000 && (b.natAbs.ble 1000000000000000000 && (b - a).toNat.ble 10000000)
def rgD (a b : Int) : List D := (iota a (b - a).toNat).map .int
def indexD (l : List D) (d : D) (k : Int) : Option Int := match l with
  | [] => none
  | z :: r => if PyData.eqv z d then some k else indexD r d (k + 1)
def strsOf : List D → Option (List Str)
  | [] => some []
  | .str s :: r => (strsOf r).map (s :: ·)
  | _ :: _ => none
def nodupI : List Int → List Int
  | [] => []
  | x :: r => if x ∈ r then nodupI r else x :: nodupI r
def evBi : Bi → List D → R D
  | .len, [.list l] => .ok (.int l.length)
  | .len, [.tuple l] => .ok (.int l.length)
  | .len, [.str s] => if s.length ≤ sizeLine then .ok (.int s.length) else .st
  | .len, [.dict l] => .ok (.int l.length)
  | .int, [.int i] => .ok (.int i)
  | .int, [.bool b] => .ok (.int (if b then 1 else 0))
  | .abs, [.int i] => .ok (.int (if i < 0 then -i else i))
  | .neg, [.int i] => .ok (.int (-i))
  | .min1, [.list l] => match asInts l with
    | some (x :: r) => .ok (.int (minL x r))
    | _ => match l with
      | x :: r => if sortOk (x :: r) then .ok (W.minD x r) else .st
      | [] => .st
  | .max1, [.list l] => match asInts l with
    | some (x :: r) => .ok (.int (maxL x r))
    | _ => .st
  | .min2, [.int i, .int j] => .ok (.int (if j < i then j else i))
  | .max2, [.int i, .int j] => .ok (.int (if j > i then j else i))
  | .sorted, [.list l] => match asInts l with
    | some ns => .ok (.list ((isort ns).map .int))
    | none => if sortOk l then .ok (.list (l.mergeSort (W.dataLe false id))) else .st
  | .sorted, [.tuple l] => match asInts l with
    | some ns => .ok (.list ((isort ns).map .int))
    | none => if sortOk l then .ok (.list (l.mergeSort (W.dataLe false id))) else .st
  | .tuple, [.list l] => .ok (.tuple l)
  | .tuple, [.tuple l] => .ok (.tuple l)
  | .list, [.list l] => .ok (.list l)
  | .list, [.tuple l] => .ok (.list l)
  | .sum, [.list l] => match asInts l with
    | some ns => .ok (.int ns.sum)
    | none => .st
  | .all, [.list l] => match asBools l with
    | some bs => .ok (.bool (bs.all id))
    | none => .st
  | .any, [.list l] => match asBools l with
    | some bs => .ok (.bool (bs.any id))
    | none => .st
  | .str, [.int i] => if i.natAbs.log2 < 1920 then .ok (.str (toString i)) else .st
  | .lenSet, [.tuple l] => match asInts l with
    | some ns => if ns.length ≤ 1000 then .ok (.int (nodupI ns).length) else .st
    | none => .st
  | .listR1, [.int n] => if rgOk 0 n then .ok (.list (rgD 0 n)) else .st
  | .listR2, [.int a, .int b] => if rgOk a b then .ok (.list (rgD a b)) else .st
  | .tupR1, [.int n] => if rgOk 0 n then .ok (.tuple (rgD 0 n)) else .st
  | .tupR2, [.int a, .int b] => if rgOk a b then .ok (.tuple (rgD a b)) else .st
  | .isInt, [d] => match d with
    | .int _ => .ok (.bool true)
    | .bool _ => .ok (.bool true)
    | .str _ => .ok (.bool false)
    | .list _ => .ok (.bool false)
    | .tuple _ => .ok (.bool false)
    | _ => .st
  | .isStr, [d] => match d with
    | .int _ => .ok (.bool false)
    | .str _ => .ok (.bool true)
    | .list _ => .ok (.bool false)
    | .tuple _ => .ok (.bool false)
    | _ => .st
  | .isBool, [d] => match d with
    | .bool _ => .ok (.bool true)
    | .int _ => .ok (.bool false)
    | .none => .ok (.bool false)
    | _ => .st
  | .isTup, [d] => match d with
    | .tuple _ => .ok (.bool true)
    | .bool _ => .ok (.bool false)
    | .int _ => .ok (.bool false)
    | .str _ => .ok (.bool false)
    | .list _ => .ok (.bool false)
    | .none => .ok (.bool false)
    | _ => .st
  | .tix ys, [.str s] => if s ∈ ys then .ok (.int (ys.idxOf s : Nat)) else .st
  | .isNone, [d] => .ok (.bool (match d with | .none => true | _ => false))
  | .notNone, [d] => .ok (.bool (match d with | .none => false | _ => true))
  | .inC l, [d] => if SeqAt.shaped d && SeqAt.shaped (.tuple l) then .ok (.bool (l.any fun z => PyData.eqv z d)) else .st
  | .ninC l, [d] => if SeqAt.shaped d && SeqAt.shaped (.tuple l) then .ok (.bool (!l.any fun z => PyData.eqv z d)) else .st
  | _, _ => .st
def mOk : Mt → D → Bool
  | .index, .list _ => true
  | .count, .list _ => true
  | .join, .str _ => true
  | .split, .str _ => true
  | _, _ => false
def evMt : Mt → D → D → R D
  | .index, .list l, d => if SeqAt.shaped (.list l) && SeqAt.shaped d then (match indexD l d 0 with | some k => .ok (.int k) | none => .st) else .st
  | .count, .list l, .int i => match asInts l with
    | some ns => .ok (.int (ns.count i))
    | none => .st
  | .join, .str a, .list l => match strsOf l with
    | some ys => if (ys.map (·.length)).sum + ys.length * a.length ≤ 16777216 then .ok (.str (Txt.join a ys)) else .st
    | none => .st
  | .split, .str a, .str b => if (b.length == 0) = false ∧ a.length + 2 ≤ sizeLine ∧ (Txt.split a b).length ≤ sizeLine then .ok (.list ((Txt.split a b).map .str)) else .st
  | _, _, _ => .st
/-! ### the evaluator of expressions -/
def rdS : Sl → R D
  | .o d => .ok d
  | .f d => .ok d
  | _ => .st
def geti : Env → Nat → Sl
  | [], _ => .u
  | s :: _, 0 => s
  | _ :: r, n + 1 => geti r n
def sets : Env → Nat → Sl → Env
  | [], _, _ => []
  | _ :: r, 0, x => x :: r
  | s :: r, n + 1, x => s :: sets r n x
def wipeS (env : Env) : List Nat → Env
  | [] => env
  | i :: r => sets (wipeS env r) i .u
def setsAll : Env → List Nat → List D → Option Env
  | env, [], [] => some env
  | env, i :: is, d :: ds => setsAll (sets env i (.f d)) is ds
  | _, _, _ => none
def asgT : T → D → Env → Option Env
  | .n i, d, env => some (sets env i (.f d))
  | .t is, .tuple ds, env => setsAll env is ds
  | .t _, _, _ => none
def compL (f : D → R (Option D)) : List D → R (List D)
  | [] => .ok []
  | d :: r => match f d with
    | .ok (some x) => match compL f r with
      | .ok l => .ok (x :: l)
      | _ => .st
    | .ok none => compL f r
    | _ => .st
def putD (k v : D) : List (D × D) → List (D × D)
  | [] => [(k, v)]
  | (a, w) :: r => if PyData.eqv a k then (a, v) :: r else (a, w) :: putD k v r
def pairsD : List D → Option (List (D × D))
  | [] => some []
  | k :: v :: r => if isKey k then (pairsD r).map ((k, v) :: ·) else none
  | [_] => none
def toB : R D → R Bool
  | .ok (.bool b) => .ok b
  | .ok _ => .st
  | .ex c => .ex c
  | .st => .st
def enumD (k : Int) : List D → List D
  | [] => []
  | d :: r => .tuple [.int k, d] :: enumD (k + 1) r
def seqD : D → R (List D)
  | .list l => .ok l
  | .tuple l => .ok l
  | _ => .st
/-- classes: what except C catches -/
abbrev Phi := Str → List D → R D
def subC (c d : Str) : Bool := c == d || d == ("UnpartedError" : Str) || d == ("ValueError" : Str)
mutual
def evE (Φ : Phi) : E → Env → R D
  | .v i, env => rdS (geti env i)
  | .int i, _ => .ok (.int i)
  | .str s, _ => .ok (.str s)
  | .bl b, _ => .ok (.bool b)
  | .non, _ => .ok .none
  | .not a, env => flt (notR (toB (evE Φ a env)))
  | .and a b, env => (toB (evE Φ a env)).bind fun c => if c then (toB (evE Φ b env)).bind fun e => .ok (.bool e) else .ok (.bool false)
  | .or a b, env => (toB (evE Φ a env)).bind fun c => if c then .ok (.bool true) else (toB (evE Φ b env)).bind fun e => .ok (.bool e)
  | .op o a b, env => (evE Φ a env).bind fun x => (evE Φ b env).bind fun y => evOp o x y
  | .cmp a r, env => (evE Φ a env).bind fun x => evC Φ r x env
  | .tup es, env => (evs Φ es env).bind fun l => .ok (.tuple l)
  | .lst es, env => (evs Φ es env).bind fun l => .ok (.list l)
  | .ix a b, env => (evE Φ a env).bind fun x => (evE Φ b env).bind fun y => evIx x y
  | .sl a lo hi, env => (evE Φ a env).bind fun x => (evO Φ lo env).bind fun i => (evO Φ hi env).bind fun j => evSl x i j
  | .rev a, env => (evE Φ a env).bind fun x => match x with
    | .list l => .ok (.list l.reverse)
    | .tuple l => .ok (.tuple l.reverse)
    | _ => .st
  | .call f es, env => (evs Φ es env).bind fun l => Φ f l
  | .bi b es, env => (evs Φ es env).bind fun l => evBi b l
  | .mth m a b, env => (evE Φ a env).bind fun x => if mOk m x then (evE Φ b env).bind fun y => evMt m x y else .st
  | .lc own t it c elt, env => (evI Φ it env).bind fun ds => (compL (fun d => match asgT t d (wipeS env own) with
    | none => .st
    | some env1 => match evT Φ c env1 with
      | .ok true => match evE Φ elt env1 with
        | .ok x => .ok (some x)
        | _ => .st
      | .ok false => .ok none
      | _ => .st) ds).bind fun l => .ok (.list l)
  | .dc own t it k w, env => (evI Φ it env).bind fun ds => (compL (fun d => match asgT t d (wipeS env own) with
    | none => .st
    | some env1 => match evE Φ k env1 with
      | .ok x => if isKey x then (match evE Φ w env1 with
        | .ok y => .ok (some (.tuple [x, y]))
        | _ => .st) else .st
      | _ => .st) ds).bind fun l => .ok (.dict (l.foldl (fun acc p => match p with | .tuple [x, y] => putD x y acc | _ => acc) []))
  | .dsp es, env => (evs Φ es env).bind fun l => match pairsD l with
    | some kvs => .ok (.dict (kvs.foldl (fun acc p => putD p.1 p.2 acc) []))
    | none => .st
  | .isx i c, env => match geti env i with
    | .x k => .ok (.bool (subC k c))
    | _ => .st
def evs (Φ : Phi) : Es → Env → R (List D)
  | .nil, _ => .ok []
  | .cons a r, env => (evE Φ a env).bind fun x => (evs Φ r env).bind fun l => .ok (x :: l)
def evC (Φ : Phi) : Cs → D → Env → R D
  | .one c b, x, env => (evE Φ b env).bind fun y => flt (evCm c x y)
  | .more c b r, x, env => (evE Φ b env).bind fun y => (evCm c x y).bind fun k => if k then evC Φ r y env else .ok (.bool false)
/-- a part of a slice -/
def evO (Φ : Phi) : Oe → Env → R (Option Int)
  | .no, _ => .ok none
  | .yes a, env => (evE Φ a env).bind fun x => match x with
    | .int i => .ok (some i)
    | _ => .st
/-- a comprehension's test -/
def evT (Φ : Phi) : Oe → Env → R Bool
  | .no, _ => .ok true
  | .yes a, env => toB (evE Φ a env)
def evI (Φ : Phi) : I → Env → R (List D)
  | .e a, env => (evE Φ a env).bind seqD
  | .r1 a, env => (evE Φ a env).bind fun x => match x with
    | .int n => if rgOk 0 n then .ok (rgD 0 n) else .st
    | _ => .st
  | .r2 a b, env => (evE Φ a env).bind fun x => (evE Φ b env).bind fun y => match x, y with
    | .int i, .int j => if rgOk i j then .ok (rgD i j) else .st
    | _, _ => .st
  | .r3 a b c, env => (evE Φ a env).bind fun x => (evE Φ b env).bind fun y => (evE Φ c env).bind fun z => match x, y, z with
    | .int i, .int j, .int k => if rgOk i j && rgOk j i && k == -1 then .ok ((iota 0 (i - j).toNat).map fun m => .int (i - m)) else .st
    | _, _, _ => .st
  | .en a, env => (evE Φ a env).bind fun x => match x with
    | .list l => .ok (enumD 0 l)
    | _ => .st
end
mutual
def E.vars : E → List Nat
  | .v i => [i]
  | .int _ | .str _ | .bl _ | .non => []
  | .not a => a.vars
  | .and a b => a.vars ++ b.vars
  | .or a b => a.vars ++ b.vars
  | .op _ a b => a.vars ++ b.vars
  | .cmp a r => a.vars ++ r.vars
  | .tup es => es.vars
  | .lst es => es.vars
  | .ix a b => a.vars ++ b.vars
  | .sl a lo hi => a.vars ++ (lo.vars ++ hi.vars)
  | .rev a => a.vars
  | .call _ es => es.vars
  | .bi _ es => es.vars
  | .mth _ a b => a.vars ++ b.vars
  | .lc _ _ it c elt => it.vars ++ (c.vars ++ elt.vars)
  | .dc _ _ it k w => it.vars ++ (k.vars ++ w.vars)
  | .dsp es => es.vars
  | .isx _ _ => []
def Es.vars : Es → List Nat
  | .nil => []
  | .cons a r => a.vars ++ r.vars
def Cs.vars : Cs → List Nat
  | .one _ b => b.vars
  | .more _ b r => b.vars ++ r.vars
def Oe.vars : Oe → List Nat
  | .no => []
  | .yes a => a.vars
def I.vars : I → List Nat
  | .e a => a.vars
  | .r1 a => a.vars
  | .r2 a b => a.vars ++ b.vars
  | .r3 a b c => a.vars ++ (b.vars ++ c.vars)
  | .en a => a.vars
end
/-- the value is a new list or dict, nobody else's -/
def E.fresh : E → Bool
  | .lst _ | .lc _ _ _ _ _ => true
  | .bi .list (.cons _ .nil) | .bi .listR1 (.cons _ .nil) | .bi .listR2 (.cons _ (.cons _ .nil)) => true
  | _ => false
/-! ### statements -/
inductive Out where
  | nx (env : Env) | rt (d : D) | bk (env : Env) | ex (c : Str) (env : Env) | st
def frzS (vs : List Nat) : Nat → Env → Env
  | _, [] => []
  | k, .o d :: r => (if vs.contains k then .f d else .o d) :: frzS vs (k + 1) r
  | k, s :: r => s :: frzS vs (k + 1) r
/-- behind a value that may share the lists of vs -/
def shr (vs : List Nat) (d : D) (env : Env) : Env := if flat d then env else frzS vs 0 env
def putS (e : E) (i : Nat) (d : D) (env : Env) : Env := match e.fresh, d with
  | true, .list ds => sets (if flatAll ds then env else frzS e.vars 0 env) i (.o (.list ds))
  | _, _ => sets (shr e.vars d env) i (.f d)
def evFor (body : Env → Out) (t : T) : List D → Env → Out
  | [], env => .nx env
  | d :: r, env => match asgT t d env with
    | none => .st
    | some env1 => match body env1 with
      | .nx env2 => evFor body t r env2
      | .bk env2 => .nx env2
      | o => o
def evWhl (cond : Env → R Bool) (body : Env → Out) : Nat → Env → Out
  | 0, _ => .st
  | n + 1, env => match cond env with
    | .ok true => match body env with
      | .nx env2 => evWhl cond body n env2
      | .bk env2 => .nx env2
      | o => o
    | .ok false => .nx env
    | .ex c => .ex c env
    | .st => .st
def onR {α : Type} (r : R α) (env : Env) (k : α → Out) : Out := match r with
  | .ok a => k a
  | .ex c => .ex c env
  | .st => .st
def I.val : I → Option E
  | .e a => some a
  | .en a => some a
  | _ => none
def frzI (it : I) (ds : List D) (env : Env) : Env := match it.val with
  | some a => frzS a.vars 0 env
  | none => env
def popAt (l : List D) (i : Int) : Option (D × List D) := match seqIndex? i l.length with
  | some k => if i.natAbs.ble 1000000000000000000 then (l[k]?).map fun d => (d, l.eraseIdx k) else none
  | none => none
def cap : Nat := 10000000
def augD : Op → Int → D → R D
  | .add, x, .int y => .ok (.int (x + y))
  | .sub, x, .int y => .ok (.int (x - y))
  | .mul, x, .int y => if mulOk x y then .ok (.int (x * y)) else .st
  | .div, x, .int y => if 0 < y ∧ y.natAbs.log2 < 9000 then .ok (.int (x / y)) else .st
  | _, _, _ => .st
def lstD : D → Option (List D)
  | .list l => some l
  | .tuple l => some l
  | _ => none
mutual
def evS (Φ : Phi) (fu : Nat) : S → Env → Out
  | .asg (.n i) e, env => onR (evE Φ e env) env fun d => .nx (putS e i d env)
  | .asg (.t is) e, env => onR (evE Φ e env) env fun d => match asgT (.t is) d (shr e.vars d env) with
    | some env1 => .nx env1
    | none => .st
  | .par i j a b, env => onR (evE Φ a env) env fun x => onR (evE Φ b env) env fun y => if flat x && flat y then .nx (sets (sets env i (.f x)) j (.f y)) else .st
  | .aug i o e, env => match geti env i with
    | .f (.int x) => onR (evE Φ e env) env fun y => match augD o x y with
      | .ok (.int z) => .nx (sets env i (.f (.int z)))
      | _ => .st
    | _ => .st
  | .app i e, env => match geti env i with
    | .o (.list l) => onR (evE Φ e env) env fun d => match geti (shr e.vars d env) i with
      | .o _ => if l.length < cap then .nx (sets (shr e.vars d env) i (.o (.list (l ++ [d])))) else .st
      | _ => .st
    | _ => .st
  | .appPop i j e, env => match geti env i, geti env j with
    | .o (.list m), .o (.list l) => onR (evE Φ e env) env fun x => match x with
      | .int k => match popAt l k with
        | some (d, l') => if i ≠ j ∧ m.length < cap then .nx (sets (sets env j (.o (.list l'))) i (.o (.list (m ++ [d])))) else .st
        | none => .st
      | _ => .st
    | _, _ => .st
  | .popTo i j e, env => match e with
    | .yes a => onR (evE Φ a env) env fun x => match x, geti env j with
      | .int k, .o (.list l) => match popAt l k with
        | some (d, l') => .nx (sets (sets env j (.o (.list l'))) i (.f d))
        | none => .st
      | _, _ => .st
    | .no => match geti env j with
      | .o (.list l) => match popAt l (-1) with
        | some (d, l') => .nx (sets (sets env j (.o (.list l'))) i (.f d))
        | none => .st
      | _ => .st
  | .ext i e, env => match geti env i with
    | .o (.list l) => onR (evE Φ e env) env fun d => match lstD d with
      | some m => match geti (if flatAll m then env else frzS e.vars 0 env) i with
        | .o _ => if l.length + m.length < cap then .nx (sets (if flatAll m then env else frzS e.vars 0 env) i (.o (.list (l ++ m)))) else .st
        | _ => .st
      | none => .st
    | _ => .st
  | .rvs i, env => match geti env i with
    | .o (.list l) => .nx (sets env i (.o (.list l.reverse)))
    | _ => .st
  | .srt i, env => match geti env i with
    | .o (.list l) => match asInts l with
      | some ns => .nx (sets env i (.o (.list ((isort ns).map .int))))
      | none => .st
    | _ => .st
  | .ins i a b, env => match geti env i with
    | .o (.list l) => onR (evE Φ a env) env fun x => onR (evE Φ b env) env fun d => match x, geti (shr b.vars d env) i with
      | .int k, .o _ => if 0 ≤ k ∧ k ≤ l.length ∧ l.length < cap then .nx (sets (shr b.vars d env) i (.o (.list (l.take k.toNat ++ d :: l.drop k.toNat)))) else .st
      | _, _ => .st
    | _ => .st
  | .rem i e, env => match geti env i with
    | .o (.list l) => onR (evE Φ e env) env fun x => match x, asInts l with
      | .int k, some ns => if k ∈ ns then .nx (sets env i (.o (.list ((ns.erase k).map .int)))) else .st
      | _, _ => .st
    | _ => .st
  | .setIx i a b, env => onR (evE Φ b env) env fun d => onR (evE Φ a env) env fun x => match x, geti (shr b.vars d env) i with
    | .int k, .o (.list l) => match L2.ixN l.length k with
      | some j => .nx (sets (shr b.vars d env) i (.o (.list (l.set j d))))
      | none => .st
    | x, .o (.dict kvs) => if isKey x && decide (kvs.length < cap) then .nx (sets (shr b.vars d env) i (.o (.dict (putD x d kvs)))) else .st
    | _, _ => .st
  | .exp e, env => onR (evE Φ e env) env fun _ => .nx env
  | .ite c a b, env => onR (toB (evE Φ c env)) env fun k => if k then evSs Φ fu a env else evSs Φ fu b env
  | .for_ t it b, env => onR (evI Φ it env) env fun ds => evFor (evSs Φ fu b) t ds (frzI it ds env)
  | .whl c b, env => evWhl (fun env => toB (evE Φ c env)) (evSs Φ fu b) fu env
  | .ret e, env => onR (evE Φ e env) env fun d => .rt d
  | .retN, _ => .rt .none
  | .raise c, env => .ex c env
  | .brk, env => .bk env
  | .pas, env => .nx env
  | .try_ b ks c n s, env => match evSs Φ fu b env with
    | .ex k env1 => if ks.contains k then (if subC k c then (match n with
      | some i => match evSs Φ fu s (sets env1 i (.x k)) with
        | .nx env2 => .nx (sets env2 i .u)
        | .bk env2 => .bk (sets env2 i .u)
        | .rt d => .rt d
        | _ => .st
      | none => match evSs Φ fu s env1 with
        | .nx env2 => .nx env2
        | .bk env2 => .bk env2
        | .rt d => .rt d
        | _ => .st) else .ex k env1) else .st
    | o => o
def evSs (Φ : Phi) (fu : Nat) : List S → Env → Out
  | [], env => .nx env
  | s :: r, env => match evS Φ fu s env with
    | .nx env1 => evSs Φ fu r env1
    | o => o
end
structure Fn where
  np : Nat
  nl : Nat
  body : List S
def runFn (Φ : Phi) (fu : Nat) (fn : Fn) (ds : List D) : R D := if ds.length = fn.np then (match evSs Φ fu fn.body (ds.map .f ++ List.replicate (fn.nl - fn.np) .u) with
    | .nx _ => .ok .none
    | .rt d => .ok d
    | .ex c _ => .ex c
    | _ => .st) else .st
def callP (P : Str → Option Fn) (fu : Nat) : Nat → Phi
  | 0, _, _ => .st
  | k + 1, f, ds => match P f with
    | some fn => runFn (callP P fu k) fu fn ds
    | none => .st
end PC

set_option Elab.async false
set_option linter.all false
/-! PC2: from the model's syntax to the intermediate language; what a value of the heap stands for. -/
namespace PC
open PySem PySem.Spec PyProof.Rows L2
/-- what is known of a def's surroundings -/
structure G where
  N : List Str
  fns : List (Str × Nat)
  cis : List (Str × Int)
  cts : List (Str × List D)
  ecs : List Str
  isx : Bool := false
def ix? (x : Str) : List Str → Nat → Option Nat
  | [], _ => none
  | y :: r, k => if x == y then some k else ix? x r (k + 1)
def visB (sc : Scope) (x : Str) : Bool := match sc.names.lookup x with
  | some .local => true
  | some .cell => true
  | some .free => true
  | _ => false
def locB (sc : Scope) (x : Str) : Bool := match sc.names.lookup x with
  | some .local => true
  | some .cell => true
  | _ => false
def glB (sc : Scope) (x : Str) : Bool := match sc.names.lookup x with
  | some .globalImplicit => true
  | _ => false
def cName (g : G) (sc : Scope) (x : Str) : Option E :=
  if x == ("__debug__" : Str) || x == ("__classdict__" : Str) then none else
  match ix? x g.N 0 with
  | some i => if visB sc x then some (.v i) else none
  | none => if glB sc x then (g.cis.lookup x).map .int else none
def cmOf : CmpOp → Option Cm
  | .Eq => some .eq
  | .NotEq => some .ne
  | .Lt => some .lt
  | .LtE => some .le
  | .Gt => some .gt
  | .GtE => some .ge
  | .In => some .in_
  | .NotIn => some .nin
  | _ => none
def opOf : Operator → Option Op
  | .Add => some .add
  | .Sub => some .sub
  | .Mult => some .mul
  | .FloorDiv => some .div
  | .Mod => some .mod
  | .Pow => some .pow
  | _ => none
/-- built-ins that take values alone -/
def biOf (f : Str) (n : Nat) : Option Bi :=
  if f == ("len" : Str) && n == 1 then some .len
  else if f == ("abs" : Str) && n == 1 then some .abs
  else if f == ("min" : Str) && n == 1 then some .min1
  else if f == ("min" : Str) && n == 2 then some .min2
  else if f == ("max" : Str) && n == 1 then some .max1
  else if f == ("max" : Str) && n == 2 then some .max2
  else if f == ("sorted" : Str) && n == 1 then some .sorted
  else if f == ("sum" : Str) && n == 1 then some .sum
  else if f == ("all" : Str) && n == 1 then some .all
  else if f == ("any" : Str) && n == 1 then some .any
  else none
def tyOf (f : Str) (n : Nat) : Option Bi :=
  if f == ("int" : Str) && n == 1 then some .int
  else if f == ("tuple" : Str) && n == 1 then some .tuple
  else if f == ("list" : Str) && n == 1 then some .list
  else if f == ("str" : Str) && n == 1 then some .str
  else none
def ownOf (N : List Str) : List (Str × NameKind) → List (Str × Nat)
  | [] => []
  | (x, .local) :: r => match ix? x N 0 with
    | some i => (x, i) :: ownOf N r
    | none => ownOf N r
  | (x, .cell) :: r => match ix? x N 0 with
    | some i => (x, i) :: ownOf N r
    | none => ownOf N r
  | _ :: r => ownOf N r
def cT (g : G) (sc : Scope) : Expr → Option T
  | .Name x _ => match ix? x g.N 0 with
    | some i => if locB sc x then some (.n i) else none
    | none => none
  | .Tuple es _ _ => (es.mapM fun (e : PySem.Expr) => match e with
    | .Name x _ => match ix? x g.N 0 with
      | some i => if locB sc x then some i else none
      | none => none
    | _ => none).map .t
  | _ => none
def isSetCall (sc : Scope) : Expr → Option Expr
  | .Call (.Name f _) [a] [] _ => if f == ("set" : Str) && glB sc f then some a else none
  | _ => none
def rangeArgs (sc : Scope) : Expr → Option (List Expr)
  | .Call (.Name f _) args [] _ => if f == ("range" : Str) && glB sc f then some args else none
  | _ => none
def enumArg (sc : Scope) : Expr → Option Expr
  | .Call (.Name f _) [a] [] _ => if f == ("enumerate" : Str) && glB sc f then some a else none
  | _ => none
def kindB (sc : Scope) : Expr → Option Bi
  | .Name x _ => if glB sc x then (if x == ("int" : Str) then some .isInt else if x == ("str" : Str) then some .isStr else if x == ("bool" : Str) then some .isBool else if x == ("tuple" : Str) then some .isTup else none) else none
  | _ => none
def clsArg (g : G) (sc : Scope) (a c : Expr) : Option (Nat × Str) := match a, c with
  | .Name x _, .Name k _ => match ix? x g.N 0 with
    | some i => if g.isx && visB sc x && glB sc k && g.ecs.contains k && !(x == ("__debug__" : Str) || x == ("__classdict__" : Str)) && !(k == ("__debug__" : Str)) then some (i, k) else none
    | none => none
  | _, _ => none
def popOf (g : G) (sc : Scope) : Expr → Option (Nat × Expr)
  | .Call (.Attribute (.Name y _) k ap) [a] [] p => if k == ("pop" : Str) && ap.endLine == p.line && visB sc y && !(y == ("__debug__" : Str)) && !(y == ("__classdict__" : Str)) then (ix? y g.N 0).map fun j => (j, a) else none
  | _ => none
def mtOf (m : Str) : Option Mt :=
  if m == ("index" : Str) then some .index
  else if m == ("count" : Str) then some .count
  else if m == ("join" : Str) then some .join
  else if m == ("split" : Str) then some .split
  else none
/-- the texts of a written tuple -/
def strsC : List Expr → Option (List Str)
  | [] => some []
  | .Constant (.str s) _ _ :: r => (strsC r).map (s :: ·)
  | _ :: _ => none
def tixOf : Expr → Str → Option (List Str)
  | .Tuple es _ _, m => if m == ("index" : Str) && decide (es.length ≤ 1000) then strsC es else none
  | _, _ => none
/-- in, not in a written tuple of the module -/
def cstOf (g : G) (sc : Scope) : List CmpOp → List Expr → Option (Bool × List D)
  | [.In], [.Name x _] => if glB sc x && !(x == ("__debug__" : Str)) then (g.cts.lookup x).map fun l => (false, l) else none
  | [.NotIn], [.Name x _] => if glB sc x && !(x == ("__debug__" : Str)) then (g.cts.lookup x).map fun l => (true, l) else none
  | _, _ => none
mutual
def cE (g : G) : Nat → Bool → Scope → Expr → Option E
  | 0, _, _, _ => none
  | n + 1, cm, sc, e => match e with
    | .Name x _ => cName g sc x
    | .Constant (.int i) _ _ => some (.int i)
    | .Constant (.str s) _ _ => some (.str s)
    | .Constant (.bool b) _ _ => some (.bl b)
    | .Constant .none _ _ => some .non
    | .UnaryOp .Not a _ => (cE g n cm sc a).map .not
    | .UnaryOp .USub a _ => (cE g n cm sc a).map fun x => .bi .neg (.cons x .nil)
    | .BoolOp .And (a :: r) _ => cAnd g n cm sc a r
    | .BoolOp .Or (a :: r) _ => cOr g n cm sc a r
    | .BinOp a o b _ => (opOf o).bind fun o => (cE g n cm sc a).bind fun x => (cE g n cm sc b).map fun y => .op o x y
    | .Compare a [.Is] [.Constant .none _ _] _ => (cE g n cm sc a).map fun x => .bi .isNone (.cons x .nil)
    | .Compare a [.IsNot] [.Constant .none _ _] _ => (cE g n cm sc a).map fun x => .bi .notNone (.cons x .nil)
    | .Compare a ops cs _ => match cstOf g sc ops cs with
      | some (neg, l) => (cE g n cm sc a).map fun x => .bi (if neg then .ninC l else .inC l) (.cons x .nil)
      | none => (cE g n cm sc a).bind fun x => (cC g n cm sc ops cs).map fun r => .cmp x r
    | .Tuple es _ _ => if es.length ≤ 1000 then (cEs g n cm sc es).map .tup else none
    | .List es _ => if es.length ≤ 1000 then (cEs g n cm sc es).map .lst else none
    | .Subscript a (.Slice none none (some (.UnaryOp .USub (.Constant (.int 1) _ _) _)) _) _ => (cE g n cm sc a).map .rev
    | .Subscript a (.Slice lo hi none _) _ => (cE g n cm sc a).bind fun x => (cO g n cm sc lo).bind fun l => (cO g n cm sc hi).map fun h => .sl x l h
    | .Subscript _ (.Slice _ _ _ _) _ => none
    | .Subscript a b _ => (cE g n cm sc a).bind fun x => (cE g n cm sc b).map fun y => .ix x y
    | .Call (.Name f _) args [] _ =>
      if !(glB sc f) || f == ("__debug__" : Str) then none else
      match g.fns.lookup f with
      | some k => if cm && args.length == k && !args.isEmpty then (cEs g n cm sc args).map fun es => .call f es else none
      | none => match args with
        | [a] => match isSetCall sc a with
          | some b => if cm && f == ("len" : Str) then (cE g n cm sc b).map fun x => .bi .lenSet (.cons x .nil) else none
          | none => match rangeArgs sc a with
            | some [b] => if !cm then none else if f == ("list" : Str) then (cE g n cm sc b).map fun x => .bi .listR1 (.cons x .nil) else if f == ("tuple" : Str) then (cE g n cm sc b).map fun x => .bi .tupR1 (.cons x .nil) else none
            | some [b, c] => if !cm then none else (cE g n cm sc b).bind fun x => (cE g n cm sc c).bind fun y => if f == ("list" : Str) then some (.bi .listR2 (.cons x (.cons y .nil))) else if f == ("tuple" : Str) then some (.bi .tupR2 (.cons x (.cons y .nil))) else none
            | some _ => none
            | none => match biOf f 1 with
              | some b => if cm then (cE g n cm sc a).map fun x => .bi b (.cons x .nil) else none
              | none => match tyOf f 1 with
                | some b => (cE g n cm sc a).map fun x => .bi b (.cons x .nil)
                | none => none
        | [a, b] => if f == ("isinstance" : Str) then (match kindB sc b with
            | some k => (cE g n cm sc a).map fun x => .bi k (.cons x .nil)
            | none => (clsArg g sc a b).map fun p => .isx p.1 p.2)
          else match biOf f 2 with
            | some k => if cm then (cE g n cm sc a).bind fun x => (cE g n cm sc b).map fun y => .bi k (.cons x (.cons y .nil)) else none
            | none => none
        | _ => none
    | .Call (.Attribute o m ap) [a] [] p => if !(ap.endLine == p.line) then none else
        match tixOf o m with
        | some ys => (cE g n cm sc a).map fun y => .bi (.tix ys) (.cons y .nil)
        | none => (mtOf m).bind fun q => (cE g n cm sc o).bind fun x => (cE g n cm sc a).map fun y => .mth q x y
    | .ListComp elt [⟨t, it, ifs, 0⟩] scope _ => if !cm || !(blkC g.N sc scope (ownOf g.N scope.names)) then none else
      (cI g n cm sc t it).bind fun i => (cT g scope t).bind fun tt => if !(tt.ids.all fun j => ((ownOf g.N scope.names).map (·.2)).contains j) then none else (cF g n cm (relS scope sc) ifs).bind fun c => (cE g n cm (relS scope sc) elt).map fun x => .lc ((ownOf g.N scope.names).map (·.2)) tt i c x
    | _ => none
def cAnd (g : G) : Nat → Bool → Scope → Expr → List Expr → Option E
  | 0, _, _, _, _ => none
  | n + 1, cm, sc, a, [] => cE g n cm sc a
  | n + 1, cm, sc, a, b :: r => (cE g n cm sc a).bind fun x => (cAnd g n cm sc b r).map fun y => .and x y
def cOr (g : G) : Nat → Bool → Scope → Expr → List Expr → Option E
  | 0, _, _, _, _ => none
  | n + 1, cm, sc, a, [] => cE g n cm sc a
  | n + 1, cm, sc, a, b :: r => (cE g n cm sc a).bind fun x => (cOr g n cm sc b r).map fun y => .or x y
def cEs (g : G) : Nat → Bool → Scope → List Expr → Option Es
  | 0, _, _, _ => none
  | _ + 1, _, _, [] => some .nil
  | n + 1, cm, sc, e :: r => (cE g n cm sc e).bind fun x => (cEs g n cm sc r).map fun y => .cons x y
def cC (g : G) : Nat → Bool → Scope → List CmpOp → List Expr → Option Cs
  | 0, _, _, _, _ => none
  | n + 1, cm, sc, [o], [b] => (cmOf o).bind fun c => (cE g n cm sc b).map fun y => .one c y
  | n + 1, cm, sc, o :: os, b :: bs => (cmOf o).bind fun c => (cE g n cm sc b).bind fun y => (cC g n cm sc os bs).map fun r => .more c y r
  | _ + 1, _, _, _, _ => none
def cO (g : G) : Nat → Bool → Scope → Option Expr → Option Oe
  | 0, _, _, _ => none
  | _ + 1, _, _, none => some .no
  | n + 1, cm, sc, some e => (cE g n cm sc e).map .yes
def cF (g : G) : Nat → Bool → Scope → List Expr → Option Oe
  | 0, _, _, _ => none
  | _ + 1, _, _, [] => some .no
  | n + 1, cm, sc, [e] => (cE g n cm sc e).map .yes
  | _ + 1, _, _, _ => none
def cI (g : G) : Nat → Bool → Scope → Expr → Expr → Option I
  | 0, _, _, _, _ => none
  | n + 1, cm, sc, t, it => match rangeArgs sc it with
    | some [a] => (cE g n cm sc a).map .r1
    | some [a, b] => (cE g n cm sc a).bind fun x => (cE g n cm sc b).map fun y => .r2 x y
    | some [a, b, c] => (cE g n cm sc a).bind fun x => (cE g n cm sc b).bind fun y => (cE g n cm sc c).map fun z => .r3 x y z
    | some _ => none
    | none => match enumArg sc it with
      | some a => (match t with | .Tuple _ _ _ => (cE g n cm sc a).map .en | _ => none)
      | none => (cE g n cm sc it).map .e
end
/-! ### statements -/
/-- the forms that make a new list -/
def frE : Expr → Bool
  | .List _ _ => true
  | .ListComp _ _ _ _ => true
  | .Call (.Name _ _) [_] [] _ => true
  | _ => false
/-- which of the two rules of a store stands -/
def swB (sc : Scope) : Expr → Expr → Option Bool
  | .Name y py, .ListComp _ _ scope pos => some (py.line == pos.line && (sc.names.lookup y == some .local && !(scope.names.any fun (n, k) => n == y && (k == .local || k == .cell))))
  | _, _ => some false
mutual
def cS (g : G) : Nat → Bool → Scope → Stmt → Option S
  | 0, _, _, _ => none
  | n + 1, cm, sc, s => match s with
    | .Assign [t] e _ => (cT g sc t).bind fun tt => (cE g n cm sc e).bind fun x => match tt with
      | .n _ => if (swB sc t e).isNone || (x.fresh && !(frE e)) then none else some (.asg tt x)
      | .t _ => if cm then (match e with | .Tuple _ _ _ => none | _ => some (.asg tt x)) else none
    | .AugAssign (.Name x _) o e _ => match ix? x g.N 0 with
      | some i => if locB sc x then (opOf o).bind fun o => (cE g n cm sc e).map fun y => .aug i o y else none
      | none => none
    | .Expr (.Call (.Attribute (.Name x _) m ap) args [] p) _ => if !(ap.endLine == p.line) || x == ("__debug__" : Str) || x == ("__classdict__" : Str) then none else
      match ix? x g.N 0 with
      | some i => if !(visB sc x) then none else match args with
        | [a] => if m == ("append" : Str) then (match popOf g sc a with
            | some (j, b) => (cE g n cm sc b).map fun z => .appPop i j z
            | none => (cE g n cm sc a).map fun z => .app i z)
          else if m == ("extend" : Str) then (cE g n cm sc a).map fun z => .ext i z
          else if m == ("remove" : Str) then (cE g n cm sc a).map fun z => .rem i z
          else none
        | [] => if m == ("reverse" : Str) then some (.rvs i) else if m == ("sort" : Str) then some (.srt i) else none
        | [a, b] => if m == ("insert" : Str) then (cE g n cm sc a).bind fun z => (cE g n cm sc b).map fun y => .ins i z y else none
        | _ => none
      | none => none
    | .Expr e _ => (match e with | .ListComp _ _ _ _ => none | _ => (cE g n cm sc e).map .exp)
    | .If c a b _ => (cE g n cm sc c).bind fun x => (cSs g n cm sc a).bind fun y => (cSs g n cm sc b).map fun z => .ite x y z
    | .For t it b [] _ => if !cm then none else (cT g sc t).bind fun tt => (cI g n cm sc t it).bind fun i => (cSs g n cm sc b).map fun y => .for_ tt i y
    | .While c b [] _ => (cE g n cm sc c).bind fun x => (cSs g n cm sc b).map fun y => .whl x y
    | .Return (some e) _ => (cE g n cm sc e).map .ret
    | .Return none _ => some .retN
    | .Raise (some (.Call (.Name c _) [.Constant (.str _) _ _] [] _)) none _ => if cm && glB sc c && g.ecs.contains c && !(c == ("__debug__" : Str)) then some (.raise c) else none
    | .Break _ => some .brk
    | .Pass _ => some .pas
    | .Try b [.ExceptHandler (some (.Name c _)) nm (s0 :: su) _] [] [] _ => if !cm || !(glB sc c) || !(g.ecs.contains c) || c == ("__debug__" : Str) then none else
      (cSs g n cm sc b).bind fun x => (cSs g n false sc (s0 :: su)).bind fun y => match nm with
        | none => some (.try_ x g.ecs c none y)
        | some v => match ix? v g.N 0, sc.names.lookup v with
          | some i, some .local => some (.try_ x g.ecs c (some i) y)
          | _, _ => none
    | _ => none
def cSs (g : G) : Nat → Bool → Scope → List Stmt → Option (List S)
  | 0, _, _, _ => none
  | _ + 1, _, _, [] => some []
  | n + 1, cm, sc, s :: r => (cS g n cm sc s).bind fun x => (cSs g n cm sc r).map fun y => x :: y
end
end PC

set_option Elab.async false
set_option linter.all false
/-! PC3: what a value stands for; the operators by data. -/
namespace PC
open PySem PySem.Spec PyProof.Rows L2
mutual
/-- v stands for d in H, by objects outside A -/
inductive Rp (A : Addr → Prop) (H : Hp) : V → D → Prop
  | non : Rp A H .non .none
  | bl (b : Bool) : Rp A H (.bl b) (.bool b)
  | int (i : Int) : Rp A H (.int i) (.int i)
  | str (x : Str) : Rp A H (.str x) (.str x)
  | lst {a : Addr} {xs : List V} {ds : List D} : ¬ A a → Rd H a (.lst xs) → xs.length ≤ sizeLine → RpA A H xs ds → Rp A H (.ref a) (.list ds)
  | tup {a : Addr} {xs : List V} {ds : List D} : ¬ A a → H a = some (.tup xs) → xs.length ≤ sizeLine → RpA A H xs ds → Rp A H (.ref a) (.tuple ds)
inductive RpA (A : Addr → Prop) (H : Hp) : List V → List D → Prop
  | nil : RpA A H [] []
  | cons {v : V} {vs : List V} {d : D} {ds : List D} : Rp A H v d → RpA A H vs ds → RpA A H (v :: vs) (d :: ds)
end
section
variable {A B : Addr → Prop} {H H' : Hp}
theorem Rd.same {a : Addr} {u : HO} (s : Same H H') (h : Rd H a u) : Rd H' a u := by
  rcases h with h | ⟨o, h⟩
  · exact .inl (s _ _ h)
  · exact .inr ⟨o, s _ _ h⟩
mutual
theorem Rp.same (s : Same H H') : ∀ (d : D) (v : V), Rp A H v d → Rp A H' v d
  | .none, _, .non => .non
  | .bool _, _, .bl b => .bl b
  | .int _, _, .int i => .int i
  | .str _, _, .str x => .str x
  | .list ds, _, .lst n h z r => .lst n (Rd.same s h) z (RpA.same s ds _ r)
  | .tuple ds, _, .tup n h z r => .tup n (s _ _ h) z (RpA.same s ds _ r)
theorem RpA.same (s : Same H H') : ∀ (ds : List D) (vs : List V), RpA A H vs ds → RpA A H' vs ds
  | [], _, .nil => .nil
  | d :: ds, _, .cons h r => .cons (Rp.same s d _ h) (RpA.same s ds _ r)
end
mutual
theorem Rp.dp {K : PySem.W.Frag} : ∀ (d : D) (v : V), Rp A H v d → Dp K H v d
  | .none, _, .non => .non
  | .bool _, _, .bl b => .bl b
  | .int _, _, .int i => .int i
  | .str _, _, .str x => .str x
  | .list ds, _, .lst n h z r => .lst (.inl h) (RpA.dp ds _ r)
  | .tuple ds, _, .tup n h z r => .tup (.inl (.inl h)) (RpA.dp ds _ r)
theorem RpA.dp {K : PySem.W.Frag} : ∀ (ds : List D) (vs : List V), RpA A H vs ds → DpAll K H vs ds
  | [], _, .nil => .nil
  | d :: ds, _, .cons h r => .cons (Rp.dp d _ h) (RpA.dp ds _ r)
end
mutual
/-- fewer to be avoided -/
theorem Rp.less (s : ∀ a, B a → A a) : ∀ (d : D) (v : V), Rp A H v d → Rp B H v d
  | .none, _, .non => .non
  | .bool _, _, .bl b => .bl b
  | .int _, _, .int i => .int i
  | .str _, _, .str x => .str x
  | .list ds, _, .lst n h z r => .lst (fun q => n (s _ q)) h z (RpA.less s ds _ r)
  | .tuple ds, _, .tup n h z r => .tup (fun q => n (s _ q)) h z (RpA.less s ds _ r)
theorem RpA.less (s : ∀ a, B a → A a) : ∀ (ds : List D) (vs : List V), RpA A H vs ds → RpA B H vs ds
  | [], _, .nil => .nil
  | d :: ds, _, .cons h r => .cons (Rp.less s d _ h) (RpA.less s ds _ r)
end
mutual
/-- a value without lists avoids all lists -/
theorem Rp.flat (s : ∀ a, B a → A a ∨ ∃ xs, H a = some (.lst xs)) : ∀ (d : D) (v : V), PC.flat d = true → Rp A H v d → Rp B H v d
  | .none, _, _, .non => .non
  | .bool _, _, _, .bl b => .bl b
  | .int _, _, _, .int i => .int i
  | .str _, _, _, .str x => .str x
  | .list ds, _, f, .lst n h z r => by simp [PC.flat] at f
  | .tuple ds, _, f, .tup n h z r => by
    refine .tup (fun q => ?_) h z (RpA.flat s ds _ (by simpa [PC.flat] using f) r)
    rcases s _ q with q | ⟨xs, q⟩
    · exact n q
    · rw [h] at q; cases q
theorem RpA.flat (s : ∀ a, B a → A a ∨ ∃ xs, H a = some (.lst xs)) : ∀ (ds : List D) (vs : List V), PC.flatAll ds = true → RpA A H vs ds → RpA B H vs ds
  | [], _, _, .nil => .nil
  | d :: ds, _, f, .cons h r => by
    simp only [PC.flatAll, Bool.and_eq_true] at f
    exact .cons (Rp.flat s d _ f.1 h) (RpA.flat s ds _ f.2 r)
end
theorem RpA.length : ∀ {ds : List D} {vs : List V}, RpA A H vs ds → vs.length = ds.length
  | [], _, .nil => rfl
  | _ :: _, _, .cons _ r => by simp [RpA.length r]
theorem RpA.append : ∀ {ds es : List D} {vs ws : List V}, RpA A H vs ds → RpA A H ws es → RpA A H (vs ++ ws) (ds ++ es)
  | [], _, _, _, .nil, s => s
  | _ :: _, _, _, _, .cons h r, s => .cons h (RpA.append r s)
theorem RpA.get : ∀ {ds : List D} {vs : List V} {i : Nat} {d : D}, RpA A H vs ds → ds[i]? = some d → ∃ v, vs[i]? = some v ∧ Rp A H v d
  | [], _, _, _, .nil, q => by simp at q
  | d :: _, _, 0, e, .cons h r, q => by
    simp at q; subst q; exact ⟨_, rfl, h⟩
  | _ :: ds, _, i + 1, d, .cons h r, q => by
    obtain ⟨v, a, b⟩ := RpA.get (i := i) (d := d) r (by simpa using q)
    exact ⟨v, by simpa using a, b⟩
theorem RpA.getV : ∀ {ds : List D} {vs : List V} {i : Nat} {v : V}, RpA A H vs ds → vs[i]? = some v → ∃ d, ds[i]? = some d ∧ Rp A H v d
  | [], _, _, _, .nil, q => by simp at q
  | d :: _, _, 0, e, .cons h r, q => by
    simp at q; subst q; exact ⟨_, rfl, h⟩
  | _ :: ds, _, i + 1, d, .cons h r, q => by
    obtain ⟨v, a, b⟩ := RpA.getV (i := i) (v := d) r (by simpa using q)
    exact ⟨v, by simpa using a, b⟩
theorem RpA.drop : ∀ {ds : List D} {vs : List V} (n : Nat), RpA A H vs ds → RpA A H (vs.drop n) (ds.drop n)
  | _, _, 0, r => r
  | _, _, _ + 1, .nil => .nil
  | _, _, n + 1, .cons _ r => RpA.drop n r
theorem RpA.take : ∀ {ds : List D} {vs : List V} (n : Nat), RpA A H vs ds → RpA A H (vs.take n) (ds.take n)
  | _, _, 0, r => .nil
  | _, _, _ + 1, .nil => .nil
  | _, _, n + 1, .cons h r => .cons h (RpA.take n r)
theorem RpA.set {v : V} {d : D} (q : Rp A H v d) : ∀ {ds : List D} {vs : List V} (n : Nat), RpA A H vs ds → RpA A H (vs.set n v) (ds.set n d)
  | _, _, _, .nil => .nil
  | _, _, 0, .cons _ r => .cons q r
  | _, _, n + 1, .cons h r => .cons h (RpA.set q n r)
theorem RpA.erase : ∀ {ds : List D} {vs : List V} (n : Nat), RpA A H vs ds → RpA A H (vs.eraseIdx n) (ds.eraseIdx n)
  | _, _, _, .nil => .nil
  | _, _, 0, .cons _ r => r
  | _, _, n + 1, .cons h r => .cons h (RpA.erase n r)
theorem RpA.reverse : ∀ {ds : List D} {vs : List V}, RpA A H vs ds → RpA A H vs.reverse ds.reverse
  | _, _, .nil => .nil
  | d :: ds, v :: vs, .cons h r => by
    rw [List.reverse_cons, List.reverse_cons]
    exact (RpA.reverse r).append (.cons h .nil)
theorem RpA.rep {ds : List D} {vs : List V} (r : RpA A H vs ds) : ∀ k : Nat, RpA A H (List.replicate k vs).flatten (List.replicate k ds).flatten
  | 0 => .nil
  | k + 1 => by
    rw [List.replicate_succ, List.flatten_cons, List.replicate_succ, List.flatten_cons]
    exact r.append (RpA.rep r k)
theorem RpA.ofInts : ∀ {ns : List Int}, RpA A H (ns.map V.int) (ns.map PyData.int)
  | [] => .nil
  | n :: ns => .cons (.int n) RpA.ofInts
theorem asInts_some : ∀ {ds : List D} {ns : List Int}, asInts ds = some ns → ds = ns.map PyData.int
  | [], ns, h => by cases h; rfl
  | .int i :: r, ns, h => by
    simp only [asInts, Option.map_eq_some_iff] at h
    obtain ⟨ms, h, rfl⟩ := h
    rw [asInts_some h]; rfl
  | .none :: _, _, h => by simp [asInts] at h
  | .bool _ :: _, _, h => by simp [asInts] at h
  | .str _ :: _, _, h => by simp [asInts] at h
  | .list _ :: _, _, h => by simp [asInts] at h
  | .tuple _ :: _, _, h => by simp [asInts] at h
  | .dict _ :: _, _, h => by simp [asInts] at h
theorem asInts_map : ∀ ns : List Int, asInts (ns.map PyData.int) = some ns
  | [] => rfl
  | n :: ns => by simp [asInts, asInts_map ns]
theorem RpA.ints : ∀ {ns : List Int} {vs : List V}, RpA A H vs (ns.map PyData.int) → vs = ns.map V.int
  | [], _, .nil => rfl
  | n :: ns, _, .cons h r => by
    cases h
    rw [RpA.ints r]; rfl
theorem RpA.asInts {ds : List D} {ns : List Int} {vs : List V} (h : RpA A H vs ds) (e : PC.asInts ds = some ns) : vs = ns.map V.int := by
  rw [asInts_some e] at h
  exact h.ints
theorem asBools_some : ∀ {ds : List D} {ns : List Bool}, asBools ds = some ns → ds = ns.map PyData.bool
  | [], ns, h => by cases h; rfl
  | .bool i :: r, ns, h => by
    simp only [asBools, Option.map_eq_some_iff] at h
    obtain ⟨ms, h, rfl⟩ := h
    rw [asBools_some h]; rfl
  | .none :: _, _, h => by simp [asBools] at h
  | .int _ :: _, _, h => by simp [asBools] at h
  | .str _ :: _, _, h => by simp [asBools] at h
  | .list _ :: _, _, h => by simp [asBools] at h
  | .tuple _ :: _, _, h => by simp [asBools] at h
  | .dict _ :: _, _, h => by simp [asBools] at h
theorem RpA.bools : ∀ {ns : List Bool} {vs : List V}, RpA A H vs (ns.map PyData.bool) → vs = ns.map V.bl
  | [], _, .nil => rfl
  | n :: ns, _, .cons h r => by
    cases h
    rw [RpA.bools r]; rfl
theorem asPairs_some : ∀ {ds : List D} {ns : List (Int × Int)}, asPairs ds = some ns → ds = ns.map dP
  | [], ns, h => by cases h; rfl
  | .bool _ :: _, _, h => by simp [asPairs] at h
  | .none :: _, _, h => by simp [asPairs] at h
  | .int _ :: _, _, h => by simp [asPairs] at h
  | .str _ :: _, _, h => by simp [asPairs] at h
  | .list _ :: _, _, h => by simp [asPairs] at h
  | .dict _ :: _, _, h => by simp [asPairs] at h
  | .tuple l :: r, ns, h => by
    match l, h with
    | [.int i, .int j], h2 =>
      simp only [asPairs, Option.map_eq_some_iff] at h2
      obtain ⟨ms, h3, rfl⟩ := h2
      rw [asPairs_some h3]; rfl
    | [], h => simp [asPairs] at h
    | [_], h => simp [asPairs] at h
    | .int _ :: .none :: _, h => simp [asPairs] at h
    | .int _ :: .bool _ :: _, h => simp [asPairs] at h
    | .int _ :: .str _ :: _, h => simp [asPairs] at h
    | .int _ :: .list _ :: _, h => simp [asPairs] at h
    | .int _ :: .tuple _ :: _, h => simp [asPairs] at h
    | .int _ :: .dict _ :: _, h => simp [asPairs] at h
    | .int _ :: .int _ :: _ :: _, h => simp [asPairs] at h
    | .none :: _ :: _, h => simp [asPairs] at h
    | .bool _ :: _ :: _, h => simp [asPairs] at h
    | .str _ :: _ :: _, h => simp [asPairs] at h
    | .list _ :: _ :: _, h => simp [asPairs] at h
    | .tuple _ :: _ :: _, h => simp [asPairs] at h
    | .dict _ :: _ :: _, h => simp [asPairs] at h
end
/-- what is avoided stands in the heap -/
abbrev Trk (A : Addr → Prop) (H : Hp) : Prop := ∀ a, A a → H a ≠ none
theorem Trk.same {A : Addr → Prop} {H H' : Hp} (t : Trk A H) (s : Same H H') : Trk A H' := fun a q e => t a q (by
  cases z : H a with
  | none => rfl
  | some o => rw [s a o z] at e; cases e)
theorem same_upd {H : Hp} {p : Addr} {o : HO} (h : H p = none) : Same H (upd H p o) := fun b x e => by
  rw [upd_ne (ne_of_none e h)]
  exact e
theorem Trk.new {A : Addr → Prop} {H : Hp} {p : Addr} (t : Trk A H) (h : H p = none) : ¬ A p := fun q => t p q h
section
variable {A : Addr → Prop} {H : Hp}
theorem Rp.newL {p : Addr} {xs : List V} {ds : List D} (t : Trk A H) (h : H p = none) (z : xs.length ≤ sizeLine) (r : RpA A H xs ds) : Rp A (upd H p (.lst xs)) (.ref p) (.list ds) :=
  .lst (t.new h) (.inl upd_same) z (RpA.same (same_upd h) _ _ r)
theorem Rp.newT {p : Addr} {xs : List V} {ds : List D} (t : Trk A H) (h : H p = none) (z : xs.length ≤ sizeLine) (r : RpA A H xs ds) : Rp A (upd H p (.tup xs)) (.ref p) (.tuple ds) :=
  .tup (t.new h) upd_same z (RpA.same (same_upd h) _ _ r)
end
/-- what is asked of an operation's answer -/
def Aft (A : Addr → Prop) (H : Hp) (r : R D) (Q : VK) : Prop := ∃ d, r = .ok d ∧ ∀ v H', Same H H' → Rp A H' v d → Q v H'
def rOp (f : D → D → R D) : R2 := fun x y H Q => ∃ A a b, Trk A H ∧ Rp A H x a ∧ Rp A H y b ∧ Aft A H (f a b) Q
theorem Aft.of {A : Addr → Prop} {H : Hp} {d : D} {Q : VK} (h : Aft A H (.ok d) Q) : ∀ v H', Same H H' → Rp A H' v d → Q v H' := by
  obtain ⟨e, h1, h2⟩ := h
  cases h1
  exact h2
theorem Aft.st {A : Addr → Prop} {H : Hp} {Q : VK} {G : Prop} (h : Aft A H .st Q) : G := by
  obtain ⟨e, h1, h2⟩ := h
  cases h1
theorem Aft.ite {A : Addr → Prop} {H : Hp} {Q : VK} {c : Prop} [Decidable c] {r : R D} (h : Aft A H (if c then r else .st) Q) : c ∧ Aft A H r Q := by
  by_cases q : c
  · rw [if_pos q] at h; exact ⟨q, h⟩
  · rw [if_neg q] at h; exact h.st
section
variable {X : Cx}
/-- list + list, any that are read -/
theorem op_catR : OpR X (binaryOp .Add) (fun x y H Q => ∃ l b xs zs, x = .ref l ∧ y = .ref b ∧ Rd H l (.lst xs) ∧ Rd H b (.lst zs) ∧ xs.length + zs.length ≤ sizeLine ∧ ∀ p, H p = none → Q (.ref p) (upd H p (.lst (xs ++ zs)))) := by
  intro pins s σ H x y v u Q I rx ry h
  obtain ⟨l, b, xs, zs, rfl, rfl, hH, hB, hz, q⟩ := h
  cases rx
  cases ry
  obtain ⟨z, its, n, r, e⟩ := hH.ok I.hok
  obtain ⟨z2, its2, n2, r2, e2⟩ := hB.ok I.hok
  have hl := r.length
  have hl2 := r2.length
  refine PySem.P.add_list e e2 ?_ (by rw [List.size_toArray, List.size_toArray]; omega)
  have ea : its.toArray ++ its2.toArray = (its ++ its2).toArray := by simp
  rw [ea]
  exact ⟨.ref _, _, I.lnew (t' := s.toks) (r.append r2) (by rw [List.length_append]; omega), rfl, q _ I.fresh⟩
theorem op_repR : OpR X (binaryOp .Mult) (fun x y H Q => ∃ l k xs, x = .ref l ∧ y = .int k ∧ Rd H l (.lst xs) ∧ -(2 ^ 63) ≤ k ∧ k < 2 ^ 63 ∧ xs.length * k.toNat ≤ sizeLine ∧
    ∀ p, H p = none → Q (.ref p) (upd H p (.lst (List.replicate k.toNat xs).flatten))) := by
  intro pins s σ H x y v u Q I rx ry h
  obtain ⟨l, k, xs, rfl, rfl, hH, h1, h2, hz, q⟩ := h
  cases rx
  obtain ⟨t, rfl⟩ := ry
  obtain ⟨z, its, n, r, e⟩ := hH.ok I.hok
  have hl := r.length
  have hlen : its.toArray.size * k.toNat ≤ sizeLine := by rw [List.size_toArray, ← hl]; exact hz
  have hcap : ¬ its.toArray.size * k.toNat > (2 ^ 63 - 1) / 8 := by
    have : (sizeLine : Nat) ≤ (2 ^ 63 - 1) / 8 := by decide
    omega
  have hfit : ¬ (!Builtin.List.listFitsIndex k) = true := by
    rw [fitsIndex_both h1 h2]
    exact Bool.false_ne_true
  have hlong : ¬ Builtin.List.listTooLong (its.toArray.size * k.toNat) = true := by
    rw [notLongL hlen]
    exact Bool.false_ne_true
  have hnew : List.foldl (fun x1 x2 => x1 ++ x2) #[] (List.replicate (if its.toArray.isEmpty = true then 0 else k.toNat) its.toArray) = (List.replicate k.toNat its).flatten.toArray := by
    have f0 : ∀ m : Nat, List.foldl (fun x1 x2 => x1 ++ x2) #[] (List.replicate m its.toArray) = (List.replicate m its).flatten.toArray := fun m => by
      have := foldl_rep its m []
      rw [List.nil_append] at this
      exact this
    rw [f0]
    cases its with
    | nil => simp
    | cons a r' => rw [if_neg (by simp)]
  refine wpAny_binaryOp_repeat_ref (T := "list") (U := "int") (by decide) ⟨_, e, rfl⟩ (fun s' => typeIs_int s' k t) noFill_list_mul F.fills_int_mul F.slot_int_rmul repeat_list F.slot_int_index.lookup
    (call_meets F.slot_int_rmul (typeIs_int s k t) F.entry_int_rmul (F.args_int_rmul_2 _ _) (int___rmul___int_list k t l its.toArray n)
      ⟨e, rfl, ⟨_, e, rfl⟩, call_meets F.slot_list_mul ⟨_, e, rfl⟩ F.entry_list_mul (F.args_list_mul_2 _ _) (AutoListH.list___mul___list_int_3 l its.toArray n k t hfit hcap hlong) ⟨e, ?_⟩⟩)
  rw [hnew]
  exact ⟨.ref _, _, I.lnew (t' := s.toks) (r.rep k.toNat) (by rw [PyProof.Rows.lm_len_rep_flat, Nat.mul_comm]; exact hz), rfl, q _ I.fresh⟩
def opS : Op → Operator
  | .add => .Add
  | .sub => .Sub
  | .mul => .Mult
  | .div => .FloorDiv
  | .mod => .Mod
  | .pow => .Pow
theorem opOf_eq {o : Operator} {p : Op} (h : opOf o = some p) : o = opS p := by
  cases o <;> simp [opOf] at h <;> subst h <;> rfl
theorem op_mulD : OpR X (binaryOp .Mult) (rOp (evOp .mul)) := by
  intro pins s σ H x y v u Q I rx ry h
  obtain ⟨A, a, b, tr, ha, hb, hq⟩ := h
  cases ha with
  | int i => cases hb with
    | int j =>
      obtain ⟨c, hq⟩ := hq.ite
      have q := hq.of _ H (Same.refl H) (.int _)
      have c := mulOk_iff c
      rcases c with (c | c) | c
      · exact op_mul pins s σ H _ _ v u Q I rx ry ⟨i, j, rfl, rfl, .inl c, q⟩
      · exact op_mul pins s σ H _ _ v u Q I rx ry ⟨i, j, rfl, rfl, .inr c, q⟩
      · exact op_mulW pins s σ H _ _ v u Q I rx ry ⟨i, j, rfl, rfl, c, q⟩
    | _ => exact hq.st
  | lst n r z ra => cases hb with
    | int j =>
      obtain ⟨⟨c1, c2, c3⟩, hq⟩ := hq.ite
      rw [← ra.length] at c3
      exact op_repR pins s σ H _ _ v u Q I rx ry ⟨_, j, _, rfl, rfl, r, by omega, by omega, c3, fun p hp => hq.of _ _ (same_upd hp) (Rp.newL tr hp (by rw [PyProof.Rows.lm_len_rep_flat, Nat.mul_comm]; exact c3) (ra.rep _))⟩
    | _ => exact hq.st
  | tup n r z ra => cases hb with
    | int j =>
      obtain ⟨⟨c1, c2, c3, c4⟩, hq⟩ := hq.ite
      rw [← ra.length] at c3 c4
      refine op_repT pins s σ H _ _ v u Q I rx ry ⟨_, j, _, rfl, rfl, .of r, fun e => ?_, c1, c2, c4, fun p hp => hq.of _ _ (same_upd hp) (Rp.newT tr hp ?_ (ra.rep _))⟩
      · rw [e] at c3; exact absurd c3 (by decide)
      · rw [PyProof.Rows.lm_len_rep_flat, sizeLine_eq]
        have := Nat.mul_le_mul (show j.toNat ≤ 1000 by omega) c4
        omega
    | _ => exact hq.st
  | _ => cases hb <;> exact hq.st
theorem op_addD : OpR X (binaryOp .Add) (rOp (evOp .add)) := by
  intro pins s σ H x y v u Q I rx ry h
  obtain ⟨A, a, b, tr, ha, hb, hq⟩ := h
  cases ha with
  | int i => cases hb with
    | int j => exact op_add pins s σ H _ _ v u Q I rx ry ⟨i, j, rfl, rfl, hq.of _ H (Same.refl H) (.int _)⟩
    | _ => exact hq.st
  | str i => cases hb with
    | str j =>
      obtain ⟨c, hq⟩ := hq.ite
      exact op_add_str pins s σ H _ _ v u Q I rx ry ⟨i, j, rfl, rfl, c, hq.of _ H (Same.refl H) (.str _)⟩
    | _ => exact hq.st
  | lst n r z ra => cases hb with
    | lst n2 r2 z2 ra2 =>
      obtain ⟨c, hq⟩ := hq.ite
      rw [← ra.length, ← ra2.length] at c
      exact op_catR pins s σ H _ _ v u Q I rx ry ⟨_, _, _, _, rfl, rfl, r, r2, c, fun p hp => hq.of _ _ (same_upd hp) (Rp.newL tr hp (by rw [List.length_append]; exact c) (ra.append ra2))⟩
    | _ => exact hq.st
  | tup n r z ra => cases hb with
    | tup n2 r2 z2 ra2 =>
      obtain ⟨c, hq⟩ := hq.ite
      rw [← ra.length, ← ra2.length] at c
      refine op_catA pins s σ H _ _ v u Q I rx ry ⟨_, _, _, _, rfl, rfl, .of r, .of r2, c, fun e => ?_, fun _ e => ?_, fun _ _ p hp => hq.of _ _ (same_upd hp) (Rp.newT tr hp (by rw [List.length_append]; exact c) (ra.append ra2))⟩
      · subst e; cases ra
        exact hq.of _ H (Same.refl H) (.tup n2 r2 z2 ra2)
      · subst e; cases ra2
        rw [List.append_nil] at hq
        exact hq.of _ H (Same.refl H) (.tup n r z ra)
    | _ => exact hq.st
  | _ => cases hb <;> exact hq.st
theorem op_D (o : Op) : OpR X (binaryOp (opS o)) (rOp (evOp o)) := by
  cases o with
  | add => exact op_addD
  | mul => exact op_mulD
  | sub =>
    intro pins s σ H x y v u Q I rx ry h
    obtain ⟨A, a, b, tr, ha, hb, hq⟩ := h
    cases ha with
    | int i => cases hb with
      | int j => exact op_sub pins s σ H _ _ v u Q I rx ry ⟨i, j, rfl, rfl, hq.of _ H (Same.refl H) (.int _)⟩
      | _ => exact hq.st
    | _ => cases hb <;> exact hq.st
  | div =>
    intro pins s σ H x y v u Q I rx ry h
    obtain ⟨A, a, b, tr, ha, hb, hq⟩ := h
    cases ha with
    | int i => cases hb with
      | int j =>
        obtain ⟨c, hq⟩ := hq.ite
        exact op_fdivW pins s σ H _ _ v u Q I rx ry ⟨i, j, rfl, rfl, c, hq.of _ H (Same.refl H) (.int _)⟩
      | _ => exact hq.st
    | _ => cases hb <;> exact hq.st
  | mod =>
    intro pins s σ H x y v u Q I rx ry h
    obtain ⟨A, a, b, tr, ha, hb, hq⟩ := h
    cases ha with
    | int i => cases hb with
      | int j =>
        obtain ⟨c, hq⟩ := hq.ite
        exact op_mod pins s σ H _ _ v u Q I rx ry ⟨i, j, rfl, rfl, c, hq.of _ H (Same.refl H) (.int _)⟩
      | _ => exact hq.st
    | _ => cases hb <;> exact hq.st
  | pow =>
    intro pins s σ H x y v u Q I rx ry h
    obtain ⟨A, a, b, tr, ha, hb, hq⟩ := h
    cases ha with
    | int i => cases hb with
      | int j =>
        obtain ⟨c, hq⟩ := hq.ite
        exact op_pow pins s σ H _ _ v u Q I rx ry ⟨i, j, rfl, rfl, c, hq.of _ H (Same.refl H) (.int _)⟩
      | _ => exact hq.st
    | _ => cases hb <;> exact hq.st
end
end PC

set_option Elab.async false
set_option linter.all false
/-! PC4: comparisons by data. -/
namespace PC
open PySem PySem.Spec PyProof.Rows L2
def cmS : Cm → CmpOp
  | .eq => .Eq
  | .ne => .NotEq
  | .lt => .Lt
  | .le => .LtE
  | .gt => .Gt
  | .ge => .GtE
  | .in_ => .In
  | .nin => .NotIn
theorem cmOf_eq {o : CmpOp} {p : Cm} (h : cmOf o = some p) : o = cmS p := by
  cases o <;> simp [cmOf] at h <;> subst h <;> rfl
def rCm (f : D → D → R Bool) : R2 := fun x y H Q => ∃ A a b k, Rp A H x a ∧ Rp A H y b ∧ f a b = .ok k ∧ Q (.bl k) H
theorem scal_V {A : Addr → Prop} {H : Hp} {x y : V} {a b : D} (ha : Rp A H x a) (hb : Rp A H y b) (h : scalD a b = true) : L2.scal x y = true ∧ decide (x = y) = PyData.eqv a b := by
  cases ha <;> cases hb <;> simp [scalD] at h <;> refine ⟨rfl, ?_⟩ <;> simp [PyData.eqv, Bool.beq_eq_decide_eq, beq_iff_eq] <;> first | rfl | (rw [Bool.eq_iff_iff]; simp)
section
variable {X : Cx}
theorem op_eqX (hu : X.A.units + 64 < cLine) : OpR X (compareOp .Eq) (rCm eqD) := by
  intro pins s σ H x y v u Q I rx ry h
  obtain ⟨A, a, b, k, ha, hb, hk, q⟩ := h
  unfold eqD at hk
  split at hk
  · rename_i c
    cases hk
    rw [Bool.or_eq_true] at c
    by_cases c1 : scalD a b = true
    · obtain ⟨h1, h2⟩ := scal_V ha hb c1
      exact op_eq pins s σ H x y v u Q I rx ry ⟨h1, by rw [h2]; exact q⟩
    · have c2 := c.resolve_left c1
      rw [Bool.and_eq_true] at c2
      exact op_eqD hu pins s σ H x y v u Q I rx ry ⟨a, b, Rp.dp _ _ ha, Rp.dp _ _ hb, c2.1, c2.2, q⟩
  · cases hk
theorem notR_ok {r : R Bool} {k : Bool} (h : notR r = .ok k) : r = .ok (!k) := by
  cases r with
  | ok b => cases h; simp
  | ex c => cases h
  | st => cases h
theorem op_neX (hu : X.A.units + 64 < cLine) : OpR X (compareOp .NotEq) (rCm fun a b => notR (eqD a b)) := by
  intro pins s σ H x y v u Q I rx ry h
  obtain ⟨A, a, b, k, ha, hb, hk, q⟩ := h
  have hk := notR_ok hk
  have e0 : k = !(!k) := by simp
  unfold eqD at hk
  split at hk
  · rename_i c
    have e := R.ok.inj hk
    rw [e0, ← e] at q
    rw [Bool.or_eq_true] at c
    by_cases c1 : scalD a b = true
    · obtain ⟨h1, h2⟩ := scal_V ha hb c1
      exact op_ne pins s σ H x y v u Q I rx ry ⟨h1, by rw [h2]; exact q⟩
    · have c2 := c.resolve_left c1
      rw [Bool.and_eq_true] at c2
      exact op_neD hu pins s σ H x y v u Q I rx ry ⟨a, b, Rp.dp _ _ ha, Rp.dp _ _ hb, c2.1, c2.2, q⟩
  · cases hk
end
theorem lexAt_shift (e r : Nat → Bool) (z : Bool) : ∀ (k i : Nat), Ob.lexAt e r z (i + 1) k = Ob.lexAt (fun j => e (j + 1)) (fun j => r (j + 1)) z i k
  | 0, _ => rfl
  | k + 1, i => by
    rw [Ob.lexAt_succ, Ob.lexAt_succ, lexAt_shift e r z k (i + 1)]
theorem lex_lt : ∀ ns ms : List Int, Ob.lexAt (fun j => decide (ns.getD j 0 = ms.getD j 0)) (fun j => decide (ns.getD j 0 < ms.getD j 0)) (decide (ns.length < ms.length)) 0 (min ns.length ms.length) = HT.lexLt ns ms
  | [], [] => by simp [Ob.lexAt, HT.lexLt]
  | [], _ :: _ => by simp [Ob.lexAt, HT.lexLt]
  | _ :: _, [] => by simp [Ob.lexAt, HT.lexLt]
  | x :: ns, y :: ms => by
    have ih := lex_lt ns ms
    rw [HT.lexLt_cons, ← ih]
    simp only [List.length_cons, Nat.succ_min_succ, Ob.lexAt_succ, List.getD_cons_zero, decide_eq_true_eq]
    rw [lexAt_shift]
    simp
theorem lex_gt : ∀ ns ms : List Int, Ob.lexAt (fun j => decide (ns.getD j 0 = ms.getD j 0)) (fun j => decide (ms.getD j 0 < ns.getD j 0)) (decide (ns.length > ms.length)) 0 (min ns.length ms.length) = HT.lexLt ms ns
  | [], [] => by simp [Ob.lexAt, HT.lexLt]
  | [], _ :: _ => by simp [Ob.lexAt, HT.lexLt]
  | _ :: _, [] => by simp [Ob.lexAt, HT.lexLt]
  | x :: ns, y :: ms => by
    have ih := lex_gt ns ms
    rw [HT.lexLt_cons, ← ih]
    simp only [List.length_cons, Nat.succ_min_succ, Ob.lexAt_succ, List.getD_cons_zero, decide_eq_true_eq]
    rw [lexAt_shift]
    by_cases q : x = y
    · simp [q]
    · simp [q, Ne.symm q]
theorem lex_le : ∀ ns ms : List Int, Ob.lexAt (fun j => decide (ns.getD j 0 = ms.getD j 0)) (fun j => decide (ns.getD j 0 ≤ ms.getD j 0)) (decide (ns.length ≤ ms.length)) 0 (min ns.length ms.length) = !HT.lexLt ms ns
  | [], [] => by simp [Ob.lexAt, HT.lexLt]
  | [], _ :: _ => by simp [Ob.lexAt, HT.lexLt]
  | _ :: _, [] => by simp [Ob.lexAt, HT.lexLt]
  | x :: ns, y :: ms => by
    have ih := lex_le ns ms
    rw [HT.lexLt_cons]
    simp only [List.length_cons, Nat.succ_min_succ, Ob.lexAt_succ, List.getD_cons_zero, decide_eq_true_eq]
    rw [lexAt_shift]
    by_cases q : x = y
    · simp [q] at ih ⊢; exact ih
    · have q2 : y ≠ x := Ne.symm q
      simp only [q, q2, if_false, decide_false, Bool.false_eq_true]
      rw [← decide_not]
      congr 1
      apply propext
      omega
theorem lex_ge : ∀ ns ms : List Int, Ob.lexAt (fun j => decide (ns.getD j 0 = ms.getD j 0)) (fun j => decide (ms.getD j 0 ≤ ns.getD j 0)) (decide (ns.length ≥ ms.length)) 0 (min ns.length ms.length) = !HT.lexLt ns ms
  | [], [] => by simp [Ob.lexAt, HT.lexLt]
  | [], _ :: _ => by simp [Ob.lexAt, HT.lexLt]
  | _ :: _, [] => by simp [Ob.lexAt, HT.lexLt]
  | x :: ns, y :: ms => by
    have ih := lex_ge ns ms
    rw [HT.lexLt_cons]
    simp only [List.length_cons, Nat.succ_min_succ, Ob.lexAt_succ, List.getD_cons_zero, decide_eq_true_eq]
    rw [lexAt_shift]
    by_cases q : x = y
    · simp [q] at ih ⊢; exact ih
    · simp only [q, if_false, decide_false, Bool.false_eq_true]
      rw [← decide_not]
      congr 1
      apply propext
      omega
section
variable {X : Cx}
/-- tuples of ints compared by order -/
theorem op_tups {op : CmpOp} {rel : Int → Int → Bool} {ln : Nat → Nat → Bool} {f : List Int → List Int → Bool}
    (hr : ∀ (A : Around) (s : Shared) (a b : Int) (t u : Tok), Ob.RcOp op A s (.int a t) (.int b u) (rel a b))
    (hT : ∀ {A : Around} {s : Shared} {l b : Addr} {items items2 : Array Value} {e r : Nat → Bool} (hl : s.heap.IsTuple l items) (hb : s.heap.IsTuple b items2) (hu : A.units < cLine)
      (he : ∀ j (h1 : j < items.size) (h2 : j < items2.size), SeqAt.EqAt A.in1 s items[j] items2[j] (e j))
      (hr : ∀ j (h1 : j < items.size) (h2 : j < items2.size), e j = false → Ob.RcOp op A.in1 s items[j] items2[j] (r j)),
      Ob.RcOp op A s (.ref l) (.ref b) (Ob.lexAt e r (ln items.size items2.size) 0 (min items.size items2.size)))
    (hc : ∀ v u, compareOp op v u = richCompare op v u)
    (hf : ∀ ns ms : List Int, Ob.lexAt (fun j => decide (ns.getD j 0 = ms.getD j 0)) (fun j => rel (ns.getD j 0) (ms.getD j 0)) (ln ns.length ms.length) 0 (min ns.length ms.length) = f ns ms)
    (hu : X.A.units < cLine) : OpR X (compareOp op) (fun x y H Q => ∃ (a b : Addr) (ns ms : List Int), x = .ref a ∧ y = .ref b ∧ SqT X.K H a (ns.map V.int) ∧ SqT X.K H b (ms.map V.int) ∧ Q (.bl (f ns ms)) H) := by
  intro pins s σ H x y v u Q I rx ry h
  obtain ⟨a, b, ns, ms, rfl, rfl, ha, hb, q⟩ := h
  cases rx
  cases ry
  obtain ⟨its, r1, p1, _⟩ := I.tuple ha
  obtain ⟨its2, r2, p2, _⟩ := I.tuple hb
  have i1 : IntsAre its ns := Vals.ints r1
  have i2 : IntsAre its2 ms := Vals.ints r2
  have e1 : its.toArray.size = ns.length := by rw [List.size_toArray]; exact i1.length
  have e2 : its2.toArray.size = ms.length := by rw [List.size_toArray]; exact i2.length
  have at1 : ∀ j (h1 : j < its.toArray.size), ∃ t, its.toArray[j] = .int (ns.getD j 0) t := fun j h1 => PyProof.Rows.IntsAre.int_at i1 _ _ (by simp at h1; simp [h1])
  have at2 : ∀ j (h1 : j < its2.toArray.size), ∃ t, its2.toArray[j] = .int (ms.getD j 0) t := fun j h1 => PyProof.Rows.IntsAre.int_at i2 _ _ (by simp at h1; simp [h1])
  have R := hT (A := X.A) (s := s) (e := fun j => decide (ns.getD j 0 = ms.getD j 0)) (r := fun j => rel (ns.getD j 0) (ms.getD j 0)) p1 p2 hu (fun j h1 h2 => by
    obtain ⟨t, et⟩ := at1 j h1
    obtain ⟨t', et'⟩ := at2 j h2
    rw [et, et']
    have z : (ns.getD j 0 == ms.getD j 0) = decide (ns.getD j 0 = ms.getD j 0) := by
      by_cases q : ns.getD j 0 = ms.getD j 0
      · rw [decide_eq_true q]; exact beq_iff_eq.mpr q
      · rw [decide_eq_false q]; exact beq_eq_false_iff_ne.mpr q
    rw [← z]
    exact SeqAt.EqAt.int_int _ _ _ _) (fun j h1 h2 _ => by
    obtain ⟨t, et⟩ := at1 j h1
    obtain ⟨t', et'⟩ := at2 j h2
    rw [et, et']
    exact hr _ _ _ _ _ _)
  rw [e1, e2, hf] at R
  rw [hc]
  have z : wpAny (model X.prog X.w) X.A (richCompare op (.ref a) (.ref b)) (EP X pins σ Q) X.xe s := R X.prog X.w X.xe (EP X pins σ Q) ⟨.bl _, H, I, rfl, q⟩
  exact z
theorem cmpD3 {op : CmpOp} {h h' : D → D → R Bool} {g : D → D → Bool} (h1 : OpR X (compareOp op) (rCm h'))
    (h2 : ∀ {s : Shared} {a b : Value} {da db : D} {as bs : List Addr} {Q : Value → Shared → Prop}, Reads s.heap a da as → Reads s.heap b db bs → W.alike da db = true → da ≠ .none → X.A.units + min da.depth db.depth < cLine → Q (.bool (g da db)) s → wpAny (model X.prog X.w) X.A (compareOp op a b) Q X.xe s)
    (hu : X.A.units + 65 < cLine)
    (hh : ∀ a b k, h a b = .ok k → h' a b = .ok k ∨ (∃ x y, a = .tuple x ∧ b = .tuple y ∧ W.alikeAll x y = true ∧ PyData.depthAll x ≤ 60 ∧ k = g a b)) : OpR X (compareOp op) (rCm h) := by
  intro pins s σ H x y v u Q I rx ry q
  obtain ⟨A, a, b, k, ha, hb, hk, q⟩ := q
  rcases hh a b k hk with e | ⟨l, m, rfl, rfl, e1, e2, rfl⟩
  · exact h1 pins s σ H x y v u Q I rx ry ⟨A, a, b, k, ha, hb, e, q⟩
  · obtain ⟨as, r1⟩ := Dp.reads I _ x v (Rp.dp _ _ ha) rx
    obtain ⟨bs, r2⟩ := Dp.reads I _ y u (Rp.dp _ _ hb) ry
    refine h2 r1 r2 (by simpa [W.alike] using e1) (by intro z; cases z) ?_ ⟨.bl _, H, I, rfl, q⟩
    have := Nat.min_le_left (PyData.depth (.tuple l)) (PyData.depth (.tuple m))
    simp only [PyData.depth] at this ⊢
    omega
theorem cmpD {op : CmpOp} {f : Int → Int → Bool} {g : List Int → List Int → Bool} {h : D → D → R Bool} (h1 : OpR X (compareOp op) (rI0 fun i j => .bl (f i j)))
    (h2 : OpR X (compareOp op) (fun x y H Q => ∃ (a b : Addr) (ns ms : List Int), x = .ref a ∧ y = .ref b ∧ SqT X.K H a (ns.map V.int) ∧ SqT X.K H b (ms.map V.int) ∧ Q (.bl (g ns ms)) H))
    (hh : ∀ a b k, h a b = .ok k → (∃ i j, a = .int i ∧ b = .int j ∧ k = f i j) ∨ ∃ ns ms, a = .tuple (ns.map .int) ∧ b = .tuple (ms.map .int) ∧ k = g ns ms) : OpR X (compareOp op) (rCm h) := by
  intro pins s σ H x y v u Q I rx ry q
  obtain ⟨A, a, b, k, ha, hb, hk, q⟩ := q
  rcases hh a b k hk with ⟨i, j, rfl, rfl, rfl⟩ | ⟨ns, ms, rfl, rfl, rfl⟩
  · cases ha
    cases hb
    exact h1 pins s σ H _ _ v u Q I rx ry ⟨i, j, rfl, rfl, q⟩
  · cases ha with
    | tup n r z ra => cases hb with
      | tup n2 r2 z2 ra2 =>
        rw [ra.ints] at r
        rw [ra2.ints] at r2
        exact h2 pins s σ H _ _ v u Q I rx ry ⟨_, _, ns, ms, rfl, rfl, .of r, .of r2, q⟩
def ltD0 : D → D → R Bool
  | .int i, .int j => .ok (decide (i < j))
  | .tuple a, .tuple b => match asInts a, asInts b with
    | some ns, some ms => .ok (HT.lexLt ns ms)
    | _, _ => .st
  | _, _ => .st
theorem ltD_split {a b : D} {k : Bool} (h : ltD a b = .ok k) : ltD0 a b = .ok k ∨ ∃ x y, a = .tuple x ∧ b = .tuple y ∧ W.alikeAll x y = true ∧ W.alikeAll y x = true ∧ PyData.depthAll x ≤ 60 ∧ PyData.depthAll y ≤ 60 ∧ k = W.dataLt a b := by
  unfold ltD at h
  split at h
  · exact .inl h
  · split at h
    · rename_i h1 h2
      left
      simp only [ltD0, h1, h2]
      exact h
    · split at h
      · rename_i c
        simp only [Bool.and_eq_true, decide_eq_true_eq] at c
        cases h
        exact .inr ⟨_, _, rfl, rfl, c.1.1.1, c.1.1.2, c.1.2, c.2, rfl⟩
      · cases h
  · cases h
theorem ltD_ok {a b : D} {k : Bool} (h : ltD0 a b = .ok k) : (∃ i j, a = .int i ∧ b = .int j ∧ k = decide (i < j)) ∨ ∃ ns ms, a = .tuple (ns.map .int) ∧ b = .tuple (ms.map .int) ∧ k = HT.lexLt ns ms := by
  unfold ltD0 at h
  split at h
  · cases h; exact .inl ⟨_, _, rfl, rfl, rfl⟩
  · split at h
    · rename_i h1 h2
      cases h
      exact .inr ⟨_, _, by rw [asInts_some h1], by rw [asInts_some h2], rfl⟩
    · cases h
  · cases h
theorem op_ltX0 (hu : X.A.units < cLine) : OpR X (compareOp .Lt) (rCm ltD0) :=
  cmpD (f := fun i j => decide (i < j)) op_lt (op_tups (rel := fun i j => decide (i < j)) (ln := fun i j => decide (i < j)) (fun _ _ _ _ _ _ => Ob.RcOp.lt_int _ _ _ _) Ob.RcOp.tuples_lt (fun _ _ => rfl) lex_lt hu) fun _ _ _ h => ltD_ok h
theorem op_gtX0 (hu : X.A.units < cLine) : OpR X (compareOp .Gt) (rCm fun a b => ltD0 b a) :=
  cmpD (f := fun i j => decide (j < i)) op_gt (op_tups (rel := fun i j => decide (j < i)) (ln := fun i j => decide (i > j)) (fun _ _ _ _ _ _ => Ob.RcOp.gt_int _ _ _ _) Ob.RcOp.tuples_gt (fun _ _ => rfl) lex_gt hu) fun a b k h => by
    rcases ltD_ok h with ⟨i, j, e1, e2, e3⟩ | ⟨i, j, e1, e2, e3⟩
    · exact .inl ⟨j, i, e2, e1, e3⟩
    · exact .inr ⟨j, i, e2, e1, e3⟩
theorem op_leX0 (hu : X.A.units < cLine) : OpR X (compareOp .LtE) (rCm fun a b => notR (ltD0 b a)) :=
  cmpD (f := fun i j => decide (i ≤ j)) (g := fun ns ms => !HT.lexLt ms ns) op_le (op_tups (rel := fun i j => decide (i ≤ j)) (ln := fun i j => decide (i ≤ j)) (fun _ _ _ _ _ _ => Ob.RcOp.le_int _ _ _ _) Ob.RcOp.tuples_le (fun _ _ => rfl) lex_le hu) fun a b k h => by
    have e0 : k = !(!k) := by simp
    rcases ltD_ok (notR_ok h) with ⟨i, j, e1, e2, e3⟩ | ⟨i, j, e1, e2, e3⟩
    · refine .inl ⟨j, i, e2, e1, ?_⟩
      rw [e0, e3, ← decide_not]
      congr 1
      apply propext; omega
    · exact .inr ⟨j, i, e2, e1, by rw [e0, e3]⟩
theorem op_geX0 (hu : X.A.units < cLine) : OpR X (compareOp .GtE) (rCm fun a b => notR (ltD0 a b)) :=
  cmpD (f := fun i j => decide (j ≤ i)) (g := fun ns ms => !HT.lexLt ns ms) op_ge (op_tups (rel := fun i j => decide (j ≤ i)) (ln := fun i j => decide (i ≥ j)) (fun _ _ _ _ _ _ => Ob.RcOp.ge_int _ _ _ _) Ob.RcOp.tuples_ge (fun _ _ => rfl) lex_ge hu) fun a b k h => by
    have e0 : k = !(!k) := by simp
    rcases ltD_ok (notR_ok h) with ⟨i, j, e1, e2, e3⟩ | ⟨i, j, e1, e2, e3⟩
    · refine .inl ⟨i, j, e1, e2, ?_⟩
      rw [e0, e3, ← decide_not]
      congr 1
      apply propext; omega
    · exact .inr ⟨i, j, e1, e2, by rw [e0, e3]⟩
theorem notR_of {r : R Bool} {k : Bool} (h : r = .ok (!k)) : notR r = .ok k := by rw [h]; simp [notR]
theorem op_ltX (hu : X.A.units + 65 < cLine) : OpR X (compareOp .Lt) (rCm ltD) :=
  cmpD3 (g := W.dataLt) (op_ltX0 (by omega)) (fun r1 r2 h1 h2 h3 h4 => W.lt_data r1 r2 h1 h2 h3 h4) hu fun a b k h => by
    rcases ltD_split h with q | ⟨x, y, e1, e2, e3, e4, e5, e6, e7⟩
    · exact .inl q
    · exact .inr ⟨x, y, e1, e2, e3, e5, e7⟩
theorem op_gtX (hu : X.A.units + 65 < cLine) : OpR X (compareOp .Gt) (rCm fun a b => ltD b a) :=
  cmpD3 (g := fun a b => W.dataLt b a) (op_gtX0 (by omega)) (fun r1 r2 h1 h2 h3 h4 => W.gt_data r1 r2 h1 h2 h3 h4) hu fun a b k h => by
    rcases ltD_split h with q | ⟨x, y, e1, e2, e3, e4, e5, e6, e7⟩
    · exact .inl q
    · exact .inr ⟨y, x, e2, e1, e4, e6, e7⟩
theorem op_leX (hu : X.A.units + 65 < cLine) : OpR X (compareOp .LtE) (rCm fun a b => notR (ltD b a)) :=
  cmpD3 (g := fun a b => !W.dataLt b a) (op_leX0 (by omega)) (fun r1 r2 h1 h2 h3 h4 => W.le_data r1 r2 h1 h2 h3 h4) hu fun a b k h => by
    have e0 : k = !(!k) := by simp
    rcases ltD_split (notR_ok h) with q | ⟨x, y, e1, e2, e3, e4, e5, e6, e7⟩
    · exact .inl (notR_of q)
    · exact .inr ⟨y, x, e2, e1, e4, e6, by rw [e0, e7]⟩
theorem op_geX (hu : X.A.units + 65 < cLine) : OpR X (compareOp .GtE) (rCm fun a b => notR (ltD a b)) :=
  cmpD3 (g := fun a b => !W.dataLt a b) (op_geX0 (by omega)) (fun r1 r2 h1 h2 h3 h4 => W.ge_data r1 r2 h1 h2 h3 h4) hu fun a b k h => by
    have e0 : k = !(!k) := by simp
    rcases ltD_split (notR_ok h) with q | ⟨x, y, e1, e2, e3, e4, e5, e6, e7⟩
    · exact .inl (notR_of q)
    · exact .inr ⟨x, y, e1, e2, e3, e5, by rw [e0, e7]⟩
theorem op_inX (hu : X.A.units + 65 < cLine) : OpR X (compareOp .In) (rCm inD) := by
  intro pins s σ H x y v u Q I rx ry h
  obtain ⟨A, a, b, k, ha, hb, hk, q⟩ := h
  cases hb with
  | lst n r z ra =>
    simp only [inD] at hk
    split at hk
    · rename_i c
      cases hk
      rw [Bool.and_eq_true] at c
      exact op_inD hu pins s σ H x _ v u Q I rx ry ⟨a, _, Rp.dp _ _ ha, Rp.dp _ _ (Rp.lst n r z ra), c.1, c.2, q⟩
    · cases hk
  | tup n r z ra =>
    simp only [inD] at hk
    split at hk
    · rename_i c
      cases hk
      rw [Bool.and_eq_true] at c
      obtain ⟨as, r1⟩ := Dp.reads I a x v (Rp.dp _ _ ha) rx
      obtain ⟨bs, r2⟩ := Dp.reads I (.tuple _) _ u (Rp.dp _ _ (Rp.tup n r z ra)) ry
      exact SeqAt.in_tuple_reads r2 r1 (SeqAt.canLay_of_shaped c.2) (SeqAt.canLay_of_shaped c.1) (room_in_shaped c.1 hu) ⟨.bl _, H, I, rfl, q⟩
    · cases hk
  | str t =>
    simp only [inD] at hk
    cases ha with
    | str z =>
      simp only at hk
      cases hk
      exact op_in_str pins s σ H _ _ v u Q I rx ry ⟨_, _, rfl, rfl, q⟩
    | _ => cases hk
  | _ => simp [inD] at hk
theorem op_ninX (hu : X.A.units + 65 < cLine) : OpR X (compareOp .NotIn) (rCm fun a b => notR (inD a b)) := by
  intro pins s σ H x y v u Q I rx ry h
  obtain ⟨A, a, b, k, ha, hb, hk, q⟩ := h
  have hk := notR_ok hk
  have e0 : k = !(!k) := by simp
  cases hb with
  | lst n r z ra =>
    simp only [inD] at hk
    split at hk
    · rename_i c
      have e := R.ok.inj hk
      rw [e0, ← e] at q
      rw [Bool.and_eq_true] at c
      exact op_notInD hu pins s σ H x _ v u Q I rx ry ⟨a, _, Rp.dp _ _ ha, Rp.dp _ _ (Rp.lst n r z ra), c.1, c.2, q⟩
    · cases hk
  | tup n r z ra =>
    simp only [inD] at hk
    split at hk
    · rename_i c
      have e := R.ok.inj hk
      rw [e0, ← e] at q
      rw [Bool.and_eq_true] at c
      obtain ⟨as, r1⟩ := Dp.reads I a x v (Rp.dp _ _ ha) rx
      obtain ⟨bs, r2⟩ := Dp.reads I (.tuple _) _ u (Rp.dp _ _ (Rp.tup n r z ra)) ry
      exact SeqAt.notIn_tuple_reads r2 r1 (SeqAt.canLay_of_shaped c.2) (SeqAt.canLay_of_shaped c.1) (room_in_shaped c.1 hu) ⟨.bl _, H, I, rfl, q⟩
    · cases hk
  | str t =>
    simp only [inD] at hk
    cases ha with
    | str z =>
      simp only at hk
      have e := R.ok.inj hk
      rw [e0, ← e] at q
      exact L2.op_notIn_str pins s σ H _ _ v u Q I rx ry ⟨_, _, rfl, rfl, q⟩
    | _ => cases hk
  | _ => simp [inD] at hk
theorem op_C (hu : X.A.units + 65 < cLine) (c : Cm) : OpR X (compareOp (cmS c)) (rCm (evCm c)) := by
  cases c with
  | eq => exact op_eqX (by omega)
  | ne => exact op_neX (by omega)
  | lt => exact op_ltX (by omega)
  | le => exact op_leX (by omega)
  | gt => exact op_gtX (by omega)
  | ge => exact op_geX (by omega)
  | in_ => exact op_inX hu
  | nin => exact op_ninX hu
end
end PC

set_option Elab.async false
set_option linter.all false
/-! PC5: subscripts, slices, built-ins by data. -/
namespace PC
open PySem PySem.Spec PyProof.Rows L2
/-! ### sorted of a tuple -/
section
variable {prog : Program} {w : World} {A : Around} {E : Value → Shared → Prop} {s : Shared}
theorem collect_tup {l : Addr} {vs : List Value} {Q : List Value → Shared → Prop} (hl : s.heap.IsTuple l vs.toArray)
    (h : Q vs { s with heap := (s.heap.push (seqObj "list" #[] 0)).update s.heap.objs.size (Obj.mapSeq (· ++ vs.toArray)) }) (hsz : vs.length ≤ sizeLine := by size_fits) :
    wpAny (model prog w) A (collect (.ref l)) Q E s := by
  obtain ⟨o, ho, hc, n, hd⟩ := id hl
  unfold collect
  refine wpAny_bind (wpAny_runValue (codeAny_builtin entry_proto_collect' ?_))
  show wpAny _ _ (do again (.builtin "list.__iadd__" ⟨[← newList [], .ref l], []⟩)) _ _ s
  refine wpAny_bind (wpAny_newList (wpAny_pure ⟨Code.quiet_builtin _ (by decide +kernel), codeAny_builtin entry_list_iadd' ?_⟩))
  show wpAny _ _ (Builtin.List.listExtendWith (.ref s.heap.objs.size) (.ref l) (.ref s.heap.objs.size)) _ _ { s with heap := s.heap.push (seqObj "list" #[] 0) }
  unfold Builtin.List.listExtendWith
  have ho' : (s.heap.push (seqObj "list" #[] 0)).get? l = some o := Heap.get?_push_of_some _ ho
  refine wpAny_bind (wpAny_typeOf (T := "tuple") ⟨o, ho', hc⟩ ?_)
  have ht : (Value.type "tuple" == Value.type "tuple") = true := by rfl
  rw [if_pos (by rw [ht]; simp)]
  refine wpAny_bind (listItems_at ho' hd ?_)
  refine wpAny_bind (listItems_at (xs := #[]) (n := 0) (Heap.get?_push_size _ rfl) rfl ?_)
  rw [if_neg (by simp)]
  refine wpAny_bind (listUpdate_at (xs := #[]) (n := 0) (Heap.get?_push_size _ rfl) rfl ?_ (Nat.zero_le _) (by show (#[] ++ vs.toArray).size ≤ sizeLine + 1; simp only [Array.size_append, List.size_toArray, List.length_nil]; omega))
  refine wpAny_pure ?_
  show wpAny (model prog w) A (do
      let o ← load s.heap.objs.size
      match o.data with
      | .seq xs _ => pure xs.toList
      | _ => unsupported "internal:collect") Q E { s with heap := (s.heap.push (seqObj "list" #[] 0)).update s.heap.objs.size (Obj.mapSeq (· ++ vs.toArray)) }
  refine wpAny_bind (wpAny_load (get?_update_seq (Heap.get?_push_size _ rfl) _) ?_)
  show wpAny _ _ (pure ((#[] : Array Value) ++ vs.toArray).toList) Q E _
  rw [show ((#[] : Array Value) ++ vs.toArray).toList = vs by simp]
  exact wpAny_pure h
theorem sorted_of_sortT {l : Addr} {vs : List Value} {Q : Value → Shared → Prop} (hl : s.heap.IsTuple l vs.toArray) (hL : vs.length ≤ sizeLine)
    (body : ∀ E' : Value → Shared → Prop, wpAny (model prog w) A.in1.in1 (Builtin.«list.sort» ⟨[.ref (s.heap.objs.size + 1)], []⟩) (fun f s' => f = .done (.ret .none) ∧ Q (.ref (s.heap.objs.size + 1)) s') E' { s with heap := W.copyHeap s.heap vs }) :
    wpAny (model prog w) A (call (.builtin "sorted") [.ref l]) Q E s := by
  refine Calls.call_function_entry kind_sorted plain_sorted entry_sorted (args_sorted1 _) ?_
  unfold Builtin.«sorted»
  refine wpAny_bind (m := checkCount "sorted" 1 1 _) (wpAny_pure ?_)
  refine wpAny_bind (collect_tup hl ?_ hL)
  refine wpAny_bind (wpAny_newList ?_ hL)
  have hsz : ((s.heap.push (seqObj "list" #[] 0)).update s.heap.objs.size (Obj.mapSeq (· ++ vs.toArray))).objs.size = s.heap.objs.size + 1 := by
    rw [Heap.size_update, size_push']
  show wpAny _ _ _ _ _ { s with heap := W.copyHeap s.heap vs }
  rw [hsz]
  refine wpAny_bind (wpAny_holding (wpAny_call_entry slot_list_sort ⟨_, W.copyHeap_at s.heap vs, rfl⟩ entry_list_sort ?body (args_list_sort _)))
  case body =>
    show wpAny (model prog w) A.in1.in1 (Builtin.«list.sort» ⟨[.ref (s.heap.objs.size + 1)], []⟩) _ _ _
    refine wpAny_mono (body _) (fun f s' hf => ?_) fun _ _ e => e
    obtain ⟨rfl, hq⟩ := hf
    exact ⟨_, rfl, wpAny_pure ⟨_, rfl, hq⟩⟩
theorem sorted_dataT {β : Type} {vs : List Value} {bs : List β} {enc : β → PyData} {R : Value → β → Prop} {l : Addr} {Q : Value → Shared → Prop} (hl : s.heap.IsTuple l vs.toArray) (e : W.EachIs R vs bs) (er : W.EachIs (fun v b => ∃ as, Reads s.heap v (enc b) as) vs bs) (hal : W.AllAlike (bs.map enc)) (hk : W.Sortable (bs.map enc)) (hL : bs.length ≤ sizeLine)
    (hu : ∀ b, b ∈ bs → A.units + 2 + (enc b).depth < cLine) (h : ∀ out, out.length = bs.length → W.EachIs R out (bs.mergeSort (W.dataLe false enc)) → Q (.ref (s.heap.objs.size + 1)) { s with heap := sortedAll s.heap vs (List.toArray out) }) :
    wpAny (model prog w) A (call (.builtin "sorted") [.ref l]) Q E s := by
  have er' : W.EachIs (fun v b => ∃ as, Reads (W.sortingHeap (W.copyHeap s.heap vs) (s.heap.objs.size + 1) vs) v (enc b) as) vs bs := er.mono fun _ _ ⟨as, r⟩ => ⟨as, PyProof.Rows.Reads.keeps (fun _ _ => W.sorting_copy_old) r⟩
  have hL' : vs.length ≤ sizeLine := by rw [e.length]; exact hL
  refine sorted_of_sortT hl hL' fun _ => W.list_sort_vals (s := { s with heap := W.copyHeap s.heap vs }) (W.copyHeap_at s.heap vs) (W.SortsAt.data (s := { s with heap := W.sortingHeap (W.copyHeap s.heap vs) (s.heap.objs.size + 1) vs }) (W.each_map (R := fun v d => ∃ as, Reads (W.sortingHeap (W.copyHeap s.heap vs) (s.heap.objs.size + 1) vs) v d as) enc er') hal hk (W.bound_map hu)) hL' ⟨rfl, ?_⟩
  exact h _ (by rw [W.sortVals_length false rfl]; exact e.length) (W.sortVals_data false e er' hal)
end
end PC

set_option Elab.async false
set_option linter.all false
/-! PC6: subscripts, slices, built-ins by data. -/
namespace PC
open PySem PySem.Spec PyProof.Rows L2
section
variable {A : Addr → Prop} {H : Hp}
theorem RpA.atI {ds : List D} {vs : List V} {i : Int} {d : D} (r : RpA A H vs ds) (h : L2.atI ds i = some d) : ∃ v, L2.atI vs i = some v ∧ Rp A H v d := by
  unfold L2.atI at h ⊢
  rw [r.length]
  cases e : ixN ds.length i with
  | none => rw [e] at h; simp at h
  | some j =>
    rw [e] at h
    exact RpA.get r (by simpa using h)
end
section
variable {X : Cx}
theorem ix_D : IxR X (rOp evIx) := by
  intro value slice pins s σ H x y v u Q I rx ry h hs
  obtain ⟨A, a, b, tr, ha, hb, hq⟩ := h
  cases ha with
  | lst n r z ra => cases hb with
    | int i =>
      obtain ⟨d, e, q⟩ := hq
      simp only [evIx, getAt] at e
      split at e
      · rename_i d' e'
        cases e
        obtain ⟨w, e1, e2⟩ := ra.atI e'
        exact ix_list value slice pins s σ H _ _ v u Q I rx ry ⟨_, _, i, w, rfl, rfl, .inl r, e1, q _ _ (Same.refl H) e2⟩ hs
      · cases e
    | _ => exact hq.st
  | tup n r z ra => cases hb with
    | int i =>
      obtain ⟨d, e, q⟩ := hq
      simp only [evIx, getAt] at e
      split at e
      · rename_i d' e'
        cases e
        obtain ⟨w, e1, e2⟩ := ra.atI e'
        exact ix_tup value slice pins s σ H _ _ v u Q I rx ry ⟨_, _, i, w, rfl, rfl, .of r, e1, q _ _ (Same.refl H) e2⟩ hs
      · cases e
    | _ => exact hq.st
  | str t => cases hb with
    | int i =>
      obtain ⟨c, hq⟩ := hq.ite
      obtain ⟨d, e, q⟩ := hq
      split at e
      · rename_i c' e'
        cases e
        exact ix_str value slice pins s σ H _ _ v u Q I rx ry ⟨t, i, c', rfl, rfl, c, e', q _ _ (Same.refl H) (.str _)⟩ hs
      · cases e
    | _ => exact hq.st
  | _ => cases hb <;> exact hq.st
def rSl (x : V) (lo hi : Option Int) (H : Hp) (Q : VK) : Prop := ∃ A a, Trk A H ∧ Rp A H x a ∧ Aft A H (evSl a lo hi) Q
theorem sl_D : SlR X rSl := by
  intro pins s σ H x v vl vu lo hi sl Q I rx hs pl pu h
  obtain ⟨A, a, tr, ha, hq⟩ := h
  cases ha with
  | lst n r z ra =>
    refine sl_list pins s σ H _ v vl vu lo hi sl Q I rx hs pl pu ⟨_, _, rfl, .inl r, fun p hp => hq.of _ _ (same_upd hp) ?_⟩
    unfold cutV cutD
    rw [ra.length]
    exact Rp.newL tr hp (Nat.le_trans (by rw [← ra.length]; exact cutV_length _ lo hi) z) ((ra.drop _).take _)
  | tup n r z ra =>
    refine sl_tupA pins s σ H _ v vl vu lo hi sl Q I rx hs pl pu ⟨_, _, rfl, .of r, fun e => hq.of _ _ (Same.refl H) ?_, fun _ p hp => hq.of _ _ (same_upd hp) ?_⟩
    · unfold cutD
      rw [← ra.length, e.1, e.2, List.drop_zero, Nat.sub_zero, ra.length, List.take_length]
      exact .tup n r z ra
    · unfold cutV cutD
      rw [ra.length]
      exact Rp.newT tr hp (Nat.le_trans (by rw [← ra.length]; exact cutV_length _ lo hi) z) ((ra.drop _).take _)
  | str t =>
    obtain ⟨c, hq⟩ := hq.ite
    exact sl_str pins s σ H _ v vl vu lo hi sl Q I rx hs pl pu ⟨t, rfl, c, hq.of _ _ (Same.refl H) (.str _)⟩
  | _ => exact hq.st
def rB1 (b : Bi) : List V → Hp → VK → Prop := fun vs H Q => ∃ A a x, vs = [x] ∧ Trk A H ∧ Rp A H x a ∧ Aft A H (evBi b [a]) Q
def rB2 (b : Bi) : List V → Hp → VK → Prop := fun vs H Q => ∃ A a c x y, vs = [x, y] ∧ Trk A H ∧ Rp A H x a ∧ Rp A H y c ∧ Aft A H (evBi b [a, c]) Q
theorem c_len : CallR X (.builtin "len") (rB1 .len) := by
  intro pins s σ H xs us Q I r h
  obtain ⟨A, a, x, rfl, tr, ha, hq⟩ := h
  cases ha with
  | lst n h z ra => exact call_len_seq pins s σ H _ us Q I r ⟨_, _, rfl, .inl (.inl h), hq.of _ _ (Same.refl H) (by rw [ra.length]; exact .int _)⟩
  | tup n h z ra => exact call_len_seq pins s σ H _ us Q I r ⟨_, _, rfl, .inr (.of h), hq.of _ _ (Same.refl H) (by rw [ra.length]; exact .int _)⟩
  | str t =>
    obtain ⟨c, hq⟩ := hq.ite
    exact call_len_str pins s σ H _ us Q I r ⟨t, rfl, c, hq.of _ _ (Same.refl H) (.int _)⟩
  | _ => exact hq.st
theorem c_abs : CallR X (.builtin "abs") (rB1 .abs) := by
  intro pins s σ H xs us Q I r h
  obtain ⟨A, a, x, rfl, tr, ha, hq⟩ := h
  cases ha with
  | int i => exact call_abs pins s σ H _ us Q I r ⟨i, rfl, hq.of _ _ (Same.refl H) (.int _)⟩
  | _ => exact hq.st
theorem c_int : CallR X (.type "int") (rB1 .int) := by
  intro pins s σ H xs us Q I r h
  obtain ⟨A, a, x, rfl, tr, ha, hq⟩ := h
  cases ha with
  | int i => exact call_int1 pins s σ H _ us Q I r (.inl ⟨i, rfl, hq.of _ _ (Same.refl H) (.int _)⟩)
  | bl i => exact call_int1 pins s σ H _ us Q I r (.inr ⟨i, rfl, hq.of _ _ (Same.refl H) (.int _)⟩)
  | _ => exact hq.st
theorem c_str : CallR X (.type "str") (rB1 .str) := by
  intro pins s σ H xs us Q I r h
  obtain ⟨A, a, x, rfl, tr, ha, hq⟩ := h
  cases ha with
  | int i =>
    obtain ⟨c, hq⟩ := hq.ite
    exact call_str_int pins s σ H _ us Q I r ⟨i, rfl, c, hq.of _ _ (Same.refl H) (.str _)⟩
  | _ => exact hq.st
theorem c_tuple : CallR X (.type "tuple") (rB1 .tuple) := by
  intro pins s σ H xs us Q I r h
  obtain ⟨A, a, x, rfl, tr, ha, hq⟩ := h
  cases ha with
  | lst n h z ra => exact call_tuple_of pins s σ H _ us Q I r ⟨_, _, rfl, .inl ⟨.inl h, fun l hl => hq.of _ _ (same_upd hl) (Rp.newT tr hl z ra)⟩⟩
  | tup n h z ra => exact call_tuple_of pins s σ H _ us Q I r ⟨_, _, rfl, .inr ⟨.of h, hq.of _ _ (Same.refl H) (.tup n h z ra)⟩⟩
  | _ => exact hq.st
theorem c_list : CallR X (.type "list") (rB1 .list) := by
  intro pins s σ H xs us Q I r h
  obtain ⟨A, a, x, rfl, tr, ha, hq⟩ := h
  cases ha with
  | lst n h z ra => exact call_list_of pins s σ H _ us Q I r ⟨_, _, rfl, .inl (.inl h), fun l hl => hq.of _ _ (same_upd hl) (Rp.newL tr hl z ra)⟩
  | tup n h z ra => exact call_list_of pins s σ H _ us Q I r ⟨_, _, rfl, .inr (.of h), fun l hl => hq.of _ _ (same_upd hl) (Rp.newL tr hl z ra)⟩
  | _ => exact hq.st
theorem c_sum (hc : X.calm = true) : CallR X (.builtin "sum") (rB1 .sum) := by
  intro pins s σ H xs us Q I r h
  obtain ⟨A, a, x, rfl, tr, ha, hq⟩ := h
  cases ha with
  | lst n h z ra =>
    obtain ⟨d, e, q⟩ := hq
    simp only [evBi] at e
    split at e
    · rename_i ns e'
      cases e
      rw [ra.asInts e'] at h
      exact cr_sum hc pins s σ H _ us Q I r ⟨_, ns, rfl, .inl h, q _ _ (Same.refl H) (.int _)⟩
    · cases e
  | _ => exact hq.st
theorem c_all (hc : X.calm = true) : CallR X (.builtin "all") (rB1 .all) := by
  intro pins s σ H xs us Q I r h
  obtain ⟨A, a, x, rfl, tr, ha, hq⟩ := h
  cases ha with
  | lst n h z ra =>
    obtain ⟨d, e, q⟩ := hq
    simp only [evBi] at e
    split at e
    · rename_i ns e'
      cases e
      rw [asBools_some e'] at ra
      rw [ra.bools] at h
      exact cr_all hc pins s σ H _ us Q I r ⟨_, ns, rfl, .inl h, q _ _ (Same.refl H) (.bl _)⟩
    · cases e
  | _ => exact hq.st
theorem c_any (hc : X.calm = true) : CallR X (.builtin "any") (rB1 .any) := by
  intro pins s σ H xs us Q I r h
  obtain ⟨A, a, x, rfl, tr, ha, hq⟩ := h
  cases ha with
  | lst n h z ra =>
    obtain ⟨d, e, q⟩ := hq
    simp only [evBi] at e
    split at e
    · rename_i ns e'
      cases e
      rw [asBools_some e'] at ra
      rw [ra.bools] at h
      exact cr_any hc pins s σ H _ us Q I r ⟨_, ns, rfl, .inl h, q _ _ (Same.refl H) (.bl _)⟩
    · cases e
  | _ => exact hq.st
theorem minL_spec : ∀ (r : List Int) (x : Int), minL x r ∈ x :: r ∧ ∀ y ∈ x :: r, minL x r ≤ y
  | [], x => by simp [minL]
  | y :: r, x => by
    have ih := minL_spec r (if y < x then y else x)
    unfold minL
    by_cases h : y < x
    · simp only [h, if_true] at ih ⊢
      refine ⟨List.mem_cons_of_mem _ ih.1, fun z hz => ?_⟩
      have h1 := ih.2 y List.mem_cons_self
      rcases List.mem_cons.mp hz with rfl | hz
      · omega
      · exact ih.2 z hz
    · simp only [h, if_false] at ih ⊢
      have h1 := ih.2 x List.mem_cons_self
      refine ⟨?_, fun z hz => ?_⟩
      · rcases List.mem_cons.mp ih.1 with e | e
        · rw [e]; exact List.mem_cons_self
        · exact List.mem_cons_of_mem _ (List.mem_cons_of_mem _ e)
      · rcases List.mem_cons.mp hz with rfl | hz
        · exact h1
        · rcases List.mem_cons.mp hz with rfl | hz
          · omega
          · exact ih.2 z (List.mem_cons_of_mem _ hz)
theorem maxL_spec : ∀ (r : List Int) (x : Int), maxL x r ∈ x :: r ∧ ∀ y ∈ x :: r, y ≤ maxL x r
  | [], x => by simp [maxL]
  | y :: r, x => by
    have ih := maxL_spec r (if y > x then y else x)
    unfold maxL
    by_cases h : y > x
    · simp only [h, if_true] at ih ⊢
      refine ⟨List.mem_cons_of_mem _ ih.1, fun z hz => ?_⟩
      have h1 := ih.2 y List.mem_cons_self
      rcases List.mem_cons.mp hz with rfl | hz
      · omega
      · exact ih.2 z hz
    · simp only [h, if_false] at ih ⊢
      have h1 := ih.2 x List.mem_cons_self
      refine ⟨?_, fun z hz => ?_⟩
      · rcases List.mem_cons.mp ih.1 with e | e
        · rw [e]; exact List.mem_cons_self
        · exact List.mem_cons_of_mem _ (List.mem_cons_of_mem _ e)
      · rcases List.mem_cons.mp hz with rfl | hz
        · exact h1
        · rcases List.mem_cons.mp hz with rfl | hz
          · omega
          · exact ih.2 z (List.mem_cons_of_mem _ hz)
mutual
/-- one value, one datum, among the alike -/
theorem Rp.reads_of {K : PySem.W.Frag} {A : Addr → Prop} {H : Hp} : ∀ (d : D) (v : V), Rp A H v d → Dp K H v d := fun d v h => Rp.dp d v h
end
theorem sortOk_iff {l : List D} (h : sortOk l = true) : W.AllAlike l ∧ W.Sortable l ∧ PyData.depthAll l ≤ 60 := by
  unfold sortOk at h
  simp only [Bool.and_eq_true, Bool.or_eq_true, List.all_eq_true, decide_eq_true_eq] at h
  obtain ⟨⟨h1, h2⟩, h3⟩ := h
  refine ⟨fun d hd e he => h1 d hd e he, ?_, h3⟩
  rcases h2 with h2 | h2
  · left
    intro d hd
    have := h2 d hd
    split at this
    · exact ⟨_, _, rfl⟩
    · cases this
  · right
    intro d hd
    have := h2 d hd
    split at this
    · cases this
    · cases this
    · rename_i h4 h5
      exact ⟨fun e => h4 e, fun xs e => h5 xs e⟩
theorem depthAll_mem : ∀ {l : List D} {d : D}, d ∈ l → d.depth ≤ PyData.depthAll l
  | x :: l, d, h => by
    simp only [PyData.depthAll]
    rcases List.mem_cons.mp h with rfl | h
    · exact Nat.le_max_left _ _
    · exact Nat.le_trans (depthAll_mem h) (Nat.le_max_right _ _)
theorem c_min1 (hc : X.calm = true) (hu : X.A.units + 100 < cLine) : CallR X (.builtin "min") (rB1 .min1) := by
  intro pins s σ H xs us Q I r h
  obtain ⟨A, a, x, rfl, tr, ha, hq⟩ := h
  cases ha with
  | @lst p ws ds n h z ra =>
    obtain ⟨d, e, q⟩ := hq
    simp only [evBi] at e
    split at e
    · rename_i y t e'
      cases e
      rw [ra.asInts e'] at h
      refine cr_min hc pins s σ H _ us Q I r ⟨_, _, rfl, .inl h, by simp, fun m h1 h2 => ?_⟩
      obtain ⟨g1, g2⟩ := minL_spec t y
      have : m = minL y t := Int.le_antisymm (h2 _ g1) (g2 _ h1)
      rw [this]
      exact q _ _ (Same.refl H) (.int _)
    · split at e
      · rename_i y t hne
        split at e
        · rename_i c
          cases e
          obtain ⟨h1, h2, h3⟩ := sortOk_iff c
          obtain ⟨u, rfl, ru⟩ := vals1 r
          cases ru
          obtain ⟨its, rv, hl, hz⟩ := I.list (.inl h)
          obtain ⟨as, rd⟩ := Dp.readsAll I _ _ its (RpA.dp _ _ ra) rv
          have hn : ∀ d ∈ y :: t, d ≠ .none := by
            rcases h2 with h2 | h2
            · intro d hd e
              obtain ⟨a, b, e2⟩ := h2 d hd
              rw [e] at e2; cases e2
            · exact fun d hd => (h2 d hd).1
          refine W.min_list_data (I.ok.hd hc) hl.isList rd ⟨fun a ha b hb => h1 a ha b hb, hn⟩ (by omega) fun i v h' tk bs hi hr hk => ?_
          have hi' : its[i]? = some v := by simpa using hi
          have hlen := rv.length
          have hil : i < ws.length := by
            have := (List.getElem?_eq_some_iff.mp hi').1
            omega
          obtain ⟨w, hw, rw'⟩ : ∃ w, ws[i]? = some w ∧ RelV w v := by
            obtain ⟨u', e1, e2⟩ := rv.get (List.getElem?_eq_getElem hil)
            rw [hi'] at e1; cases e1
            exact ⟨_, List.getElem?_eq_getElem hil, e2⟩
          obtain ⟨d, hd, hrp⟩ := ra.getV hw
          obtain ⟨as2, rd2⟩ := Dp.reads I d w v (Rp.dp _ _ hrp) rw'
          have hdm : d ∈ y :: t := List.mem_of_getElem? hd
          have hmm : W.minD y t ∈ y :: t := by
            have : ∀ (l : List D) (z : D), W.minD z l ∈ z :: l := by
              intro l
              induction l with
              | nil => intro z; simp [W.minD]
              | cons b l ih =>
                intro z
                have := ih (if W.dataLt b z then b else z)
                have e : W.minD z (b :: l) = W.minD (if W.dataLt b z then b else z) l := rfl
                rw [e]
                rcases List.mem_cons.mp this with e2 | e2
                · rw [e2]
                  split
                  · exact List.mem_cons_of_mem _ List.mem_cons_self
                  · exact List.mem_cons_self
                · exact List.mem_cons_of_mem _ (List.mem_cons_of_mem _ e2)
            exact this t y
          have e3 : W.minD y t = d := W.alike_unique _ _ v _ _ (h1 _ hmm _ hdm) hr (PyProof.Rows.Reads.keeps hk rd2)
          rw [e3] at q
          exact ⟨w, H, I.kept (t' := tk) hk, rw', q _ _ (Same.refl H) hrp⟩
        · cases e
      · cases e
  | _ => exact hq.st
theorem c_max1 (hc : X.calm = true) : CallR X (.builtin "max") (rB1 .max1) := by
  intro pins s σ H xs us Q I r h
  obtain ⟨A, a, x, rfl, tr, ha, hq⟩ := h
  cases ha with
  | lst n h z ra =>
    obtain ⟨d, e, q⟩ := hq
    simp only [evBi] at e
    split at e
    · rename_i y t e'
      cases e
      rw [ra.asInts e'] at h
      refine cr_max hc pins s σ H _ us Q I r ⟨_, _, rfl, .inl h, by simp, fun m h1 h2 => ?_⟩
      obtain ⟨g1, g2⟩ := maxL_spec t y
      have : m = maxL y t := Int.le_antisymm (g2 _ h1) (h2 _ g1)
      rw [this]
      exact q _ _ (Same.refl H) (.int _)
    · cases e
  | _ => exact hq.st
theorem c_min2 (hc : X.calm = true) : CallR X (.builtin "min") (rB2 .min2) := by
  intro pins s σ H xs us Q I r h
  obtain ⟨A, a, b, x, y, rfl, tr, ha, hb, hq⟩ := h
  cases ha with
  | int i => cases hb with
    | int j => exact call_min2 hc pins s σ H _ us Q I r ⟨i, j, rfl, hq.of _ _ (Same.refl H) (.int _)⟩
    | _ => exact hq.st
  | _ => cases hb <;> exact hq.st
theorem c_max2 (hc : X.calm = true) : CallR X (.builtin "max") (rB2 .max2) := by
  intro pins s σ H xs us Q I r h
  obtain ⟨A, a, b, x, y, rfl, tr, ha, hb, hq⟩ := h
  cases ha with
  | int i => cases hb with
    | int j => exact call_max2 hc pins s σ H _ us Q I r ⟨i, j, rfl, hq.of _ _ (Same.refl H) (.int _)⟩
    | _ => exact hq.st
  | _ => cases hb <;> exact hq.st
end
theorem insI_perm (x : Int) : ∀ l, (insI x l).Perm (x :: l)
  | [] => .refl _
  | y :: r => by
    unfold insI
    split
    · exact .refl _
    · exact ((insI_perm x r).cons y).trans (.swap x y r)
theorem isort_perm : ∀ l, (isort l).Perm l
  | [] => .refl _
  | x :: r => (insI_perm x _).trans ((isort_perm r).cons x)
theorem insI_sorted (x : Int) : ∀ l, l.Pairwise (· ≤ ·) → (insI x l).Pairwise (· ≤ ·)
  | [], _ => by simp [insI]
  | y :: r, h => by
    unfold insI
    have h1 := List.pairwise_cons.mp h
    split
    · rename_i c
      exact List.pairwise_cons.mpr ⟨fun z hz => by
        rcases List.mem_cons.mp hz with rfl | hz
        · exact c
        · have := h1.1 z hz; omega, h⟩
    · rename_i c
      refine List.pairwise_cons.mpr ⟨fun z hz => ?_, insI_sorted x r h1.2⟩
      rcases List.mem_cons.mp ((insI_perm x r).mem_iff.mp hz) with rfl | hz
      · omega
      · exact h1.1 z hz
theorem isort_sorted : ∀ l, (isort l).Pairwise (· ≤ ·)
  | [] => .nil
  | x :: r => insI_sorted x _ (isort_sorted r)
theorem sorted_uniq : ∀ {l m : List Int}, l.Pairwise (· ≤ ·) → m.Pairwise (· ≤ ·) → l.Perm m → l = m
  | [], m, _, _, p => by rw [p.symm.eq_nil]
  | x :: l, m, hl, hm, p => by
    have hx : x ∈ m := p.mem_iff.mp List.mem_cons_self
    match m, hm, p, hx with
    | [], _, _, hx => simp at hx
    | y :: m, hm, p, hx =>
      have hy : y ∈ x :: l := p.symm.mem_iff.mp List.mem_cons_self
      have h1 := List.pairwise_cons.mp hl
      have h2 := List.pairwise_cons.mp hm
      have e : x = y := by
        rcases List.mem_cons.mp hx with e | hx
        · exact e
        · rcases List.mem_cons.mp hy with e | hy
          · exact e.symm
          · have := h1.1 y hy
            have := h2.1 x hx
            omega
      subst e
      rw [sorted_uniq h1.2 h2.2 p.cons_inv]
section
variable {X : Cx}
theorem c_sorted (hu : X.A.units + 100 < cLine) : CallR X (.builtin "sorted") (rB1 .sorted) := by
  intro pins s σ H xs us Q I r h
  obtain ⟨A, a, x, rfl, tr, ha, hq⟩ := h
  -- the data's road
  have gen : ∀ {p : Addr} {ws : List V} {ds : List D}, ws.length ≤ sizeLine → RpA A H ws ds → (SqL X.K H p ws ∨ SqT X.K H p ws) → sortOk ds = true → (∀ v H', Same H H' → Rp A H' v (.list (ds.mergeSort (W.dataLe false id))) → Q v H') →
      wpAny (model X.prog X.w) X.A (PySem.call (.builtin "sorted") [.ref p]) (EP X pins σ Q) X.xe s := by
    intro p ws ds z ra hs c q
    obtain ⟨h1, h2, h3⟩ := sortOk_iff c
    have main : ∀ its : List Value, Vals ws its → (∀ {Q' : Value → Shared → Prop}, W.EachIs (fun v d => ∃ w, RelV w v ∧ Rp A H w d) its ds → W.EachIs (fun v d => ∃ as, Reads s.heap v (id d) as) its ds → W.AllAlike (ds.map id) → W.Sortable (ds.map id) → ds.length ≤ sizeLine →
        (∀ b, b ∈ ds → X.A.units + 2 + (id b).depth < cLine) → (∀ out, out.length = ds.length → W.EachIs (fun v d => ∃ w, RelV w v ∧ Rp A H w d) out (ds.mergeSort (W.dataLe false id)) → Q' (.ref (s.heap.objs.size + 1)) { s with heap := sortedAll s.heap its (List.toArray out) }) →
        wpAny (model X.prog X.w) X.A (PySem.call (.builtin "sorted") [.ref p]) Q' X.xe s) → wpAny (model X.prog X.w) X.A (PySem.call (.builtin "sorted") [.ref p]) (EP X pins σ Q) X.xe s := by
      intro its rv road
      have e1 : W.EachIs (fun v d => ∃ w, RelV w v ∧ Rp A H w d) its ds := by
        clear road q h1 h2 h3 c hs z
        induction rv generalizing ds with
        | nil => cases ra; exact .nil
        | cons r1 r2 ih => cases ra with
          | cons a1 a2 => exact .cons ⟨_, r1, a1⟩ (ih a2)
      have e2 : W.EachIs (fun v d => ∃ as, Reads s.heap v (id d) as) its ds := e1.mono fun v d ⟨w, r1, r2⟩ => Dp.reads I d w v (Rp.dp _ _ r2) r1
      refine road e1 e2 (by simpa using h1) (by simpa using h2) (by rw [← ra.length]; exact z) (fun b hb => by have := depthAll_mem hb; show X.A.units + 2 + b.depth < cLine; omega) fun out ho he => ?_
      obtain ⟨ws', rv', ra'⟩ : ∃ ws', Vals ws' out ∧ RpA A H ws' (ds.mergeSort (W.dataLe false id)) := by
        generalize ds.mergeSort (W.dataLe false id) = es at he
        clear ho
        induction he with
        | nil => exact ⟨[], .nil, .nil⟩
        | cons h1 _ ih =>
          obtain ⟨w, r1, r2⟩ := h1
          obtain ⟨ws', g1, g2⟩ := ih
          exact ⟨w :: ws', .cons r1 g1, .cons r2 g2⟩
      have hz : ws'.length ≤ sizeLine := by rw [rv'.length, ho, ← ra.length]; exact z
      obtain ⟨ep, he'⟩ := PyProof.Rows.sortedAll_at s.heap its out.toArray
      have hp := I.hok.fresh (Nat.le_succ s.heap.objs.size)
      exact ⟨.ref _, upd H (s.heap.objs.size + 1) (.lst ws'), I.laid (t' := s.toks) (fun _ _ => PyProof.Rows.sortedAll_old) (Nat.le_succ _) ⟨hz, out, ep, rv', he'⟩, rfl, q _ _ (same_upd hp) (Rp.newL tr hp hz ra')⟩
    rcases hs with hs | hs
    · obtain ⟨its, rv, hl, _⟩ := I.list hs
      exact main its rv fun e1 e2 e3 e4 e5 e6 e7 => W.sorted_data hl.isList e1 e2 e3 e4 e5 e6 e7
    · obtain ⟨its, rv, hl, _⟩ := I.tuple hs
      exact main its rv fun e1 e2 e3 e4 e5 e6 e7 => sorted_dataT hl e1 e2 e3 e4 e5 e6 e7
  cases ha with
  | lst n h z ra =>
    obtain ⟨d, e, q⟩ := hq
    simp only [evBi] at e
    split at e
    · rename_i ns e'
      cases e
      rw [ra.asInts e'] at h
      refine cr_sortedI pins s σ H _ us Q I r ⟨_, ns, rfl, .inl h, fun ns' p h1 h2 hp => ?_⟩
      rw [sorted_uniq h2 (isort_sorted ns) (h1.trans (isort_perm ns).symm)]
      refine q _ _ (same_upd hp) (Rp.newL tr hp ?_ RpA.ofInts)
      rw [ra.asInts e'] at z
      simpa [(isort_perm ns).length_eq] using z
    · split at e
      · rename_i c
        cases e
        obtain ⟨u, rfl, ru⟩ := vals1 r
        cases ru
        exact gen z ra (.inl (.inl h)) c q
      · cases e
  | tup n h z ra =>
    obtain ⟨d, e, q⟩ := hq
    obtain ⟨u, rfl, ru⟩ := vals1 r
    cases ru
    simp only [evBi] at e
    split at e
    · rename_i ns e'
      cases e
      have e2 := asInts_some e'
      subst e2
      refine gen z ra (.inr (.of h)) ?_ ?_
      · unfold sortOk
        simp only [Bool.and_eq_true, Bool.or_eq_true, List.all_eq_true, decide_eq_true_eq]
        refine ⟨⟨fun d hd e he => ?_, .inr fun d hd => ?_⟩, ?_⟩
        · obtain ⟨i, _, rfl⟩ := List.mem_map.mp hd
          obtain ⟨j, _, rfl⟩ := List.mem_map.mp he
          simp [W.alike]
        · obtain ⟨i, _, rfl⟩ := List.mem_map.mp hd
          rfl
        · rw [W.depth_ints]; decide
      · have e3 : (ns.map PyData.int).mergeSort (W.dataLe false id) = (isort ns).map PyData.int := by
          have e4 := List.map_mergeSort (r := fun a b : Int => decide (a ≤ b)) (s := W.dataLe false id) (f := PyData.int) (l := ns) fun a _ b _ => by
            show decide (a ≤ b) = !W.dataLt (.int b) (.int a)
            rw [W.dataLt_int, ← decide_not]
            congr 1
            apply propext; omega
          rw [← e4]
          congr 1
          refine sorted_uniq ?_ (isort_sorted ns) ((List.mergeSort_perm ns _).trans (isort_perm ns).symm)
          have := List.pairwise_mergeSort (le := fun a b : Int => decide (a ≤ b)) (fun a b c h1 h2 => by simp at h1 h2 ⊢; omega) (fun a b => by simp; omega) ns
          exact this.imp (by simp)
        rw [e3]
        exact q
    · split at e
      · rename_i c
        cases e
        exact gen z ra (.inr (.of h)) c q
      · cases e
  | _ => exact hq.st
end
end PC

set_option Elab.async false
set_option linter.all false
/-! PC7: t[::-1], len(set(t)), isinstance, the methods index and count. -/
namespace PC
open PySem PySem.Spec PyProof.Rows L2
section
variable {prog : Program} {w : World} {A : Around} {E : Value → Shared → Prop} {s : Shared}
theorem adjust_rev (n : Nat) : Builtin.Slice.sliceAdjust none none (-1) (n : Int) = ((n : Int) - 1, -1) := by
  unfold Builtin.Slice.sliceAdjust
  simp
theorem places_rev (n : Nat) : Builtin.Slice.slicePlaces ((n : Int) - 1) (-1) (-1) = n := by
  unfold Builtin.Slice.slicePlaces
  simp
  split <;> omega
theorem sliceApplied_rev {sl : Addr} {vl vu vs : Value} {n : Nat} {Q : Int × Int × Nat → Shared → Prop} (hs : s.heap.IsSliceOf sl vl vu vs) (pl : IsPart vl none) (pu : IsPart vu none) (ps : IsPart vs (some (-1)))
    (h : Q ((n : Int) - 1, -1, n) s) : wpAny (model prog w) A (Builtin.Slice.sliceApplied (.ref sl) (pure (n : Int))) Q E s := by
  obtain ⟨os, hos, hcs, hds⟩ := id hs
  unfold Builtin.Slice.sliceApplied Builtin.Slice.sliceFields
  refine wpAny_bind (wpAny_bind (wpAny_field hos hds (x := vl) rfl (wpAny_bind (wpAny_field hos hds (x := vu) rfl (wpAny_bind (wpAny_field hos hds (x := vs) rfl (wpAny_pure ?_)))))))
  refine wpAny_bind (HT.slicePart_ ps ?_)
  show wpAny _ _ (if ((-1 : Int) == 0) = true then _ else _) _ _ s
  rw [if_neg (by decide)]
  refine wpAny_bind (HT.slicePart_ pl (wpAny_bind (HT.slicePart_ pu (wpAny_bind (wpAny_pure ?_)))))
  show wpAny _ _ (match Builtin.Slice.sliceAdjust none none (-1) (n : Int) with | (lo, hi) => pure (lo, (-1 : Int), Builtin.Slice.slicePlaces lo hi (-1))) _ _ s
  rw [adjust_rev]
  show wpAny _ _ (pure ((n : Int) - 1, (-1 : Int), Builtin.Slice.slicePlaces ((n : Int) - 1) (-1) (-1))) _ _ s
  rw [places_rev]
  exact wpAny_pure h
theorem fm_map {α β : Type} {f : α → Option β} {g : α → β} : ∀ l : List α, (∀ m ∈ l, f m = some (g m)) → l.filterMap f = l.map g
  | [], _ => rfl
  | x :: l, h => by
    rw [List.filterMap_cons, h x List.mem_cons_self, List.map_cons, fm_map l fun m hm => h m (List.mem_cons_of_mem _ hm)]
theorem pick_rev (xs : Array Value) : ((List.range xs.size).filterMap fun (m : Nat) => xs[((xs.size : Int) - 1 + (m : Int) * (-1)).toNat]?).toArray = xs.toList.reverse.toArray := by
  congr 1
  rw [fm_map (g := fun m => xs.toList.reverse.getD m .none) _ fun m hm => ?_]
  · apply List.ext_getElem
    · simp
    · intro i h1 h2
      simp [List.getElem?_eq_getElem h2]
  · have hm := List.mem_range.mp hm
    have e1 : ((xs.size : Int) - 1 + (m : Int) * (-1)).toNat = xs.size - 1 - m := by omega
    rw [e1]
    have hl : m < xs.toList.reverse.length := by simpa using hm
    simp only [List.getD_eq_getElem?_getD, List.getElem?_eq_getElem hl, Option.getD_some]
    rw [Array.getElem?_eq_getElem (by omega)]
    simp
theorem getItem_tuple_rev {t sl : Addr} {items : Array Value} {vl vu vs : Value} {Q : Value → Shared → Prop} (ht : IsTup s.heap t items) (hs : s.heap.IsSliceOf sl vl vu vs) (pl : IsPart vl none) (pu : IsPart vu none) (ps : IsPart vs (some (-1)))
    (h : Q (.ref s.heap.objs.size) { s with heap := s.heap.push { cls := .type "tuple", data := .seq items.toList.reverse.toArray } })
    (hsz : items.size ≤ sizeLine) : wpAny (model prog w) A (getItem (.ref t) (.ref sl)) Q E s := by
  have htake : sizeOk (.seq items.toList.reverse.toArray) := by
    show items.toList.reverse.toArray.size ≤ sizeLine
    simpa using hsz
  obtain ⟨os, hos, hcs, hds⟩ := id hs
  have hTs : s.TypeIs (.ref sl) "slice" := ⟨os, hos, hcs⟩
  unfold getItem
  try with_reducible refine wpAny_holding ?_
  first | refine wpAny_bind (wpAny_pure ?_) | skip
  refine wpAny_bind (wpAny_sequenceKey ht.typeIs (by decide) ?_)
  refine wpAny_bind (wpAny_callSpecial?_slot (name := Str.ofString "__getitem__") ht.typeIs PyProof.Rows.slot_tuple_getitem
    (wpAny_call_entry PyProof.Rows.slot_tuple_getitem ht.typeIs entry_tuple_getitem ?_ (args_tuple_getitem _ _)))
  show wpAny _ _ (Builtin.Tuple.tupleItemsOf (.ref t) >>= _) _ _ s
  refine wpAny_bind (tupleItemsOf_ ht ?_)
  refine wpAny_bind (wpAny_typeOf hTs ?_)
  rw [if_pos (by decide)]
  refine wpAny_bind (sliceApplied_rev hs pl pu ps ?_)
  have hno : ¬ ((((items.size : Int) - 1) == 0 && (-1 : Int) == 1 && items.size == items.size) = true) := by simp
  show wpAny _ _ (if (((items.size : Int) - 1) == 0 && (-1 : Int) == 1 && items.size == items.size) = true then _ else _) _ _ s
  rw [if_neg hno, pick_rev]
  first
    | exact wpAny_bind (m := Builtin.Tuple.tupleExact _) (wpAny_newObj_type (wpAny_pure ⟨_, rfl, wpAny_pure h⟩) htake)
    | exact wpAny_bind (m := Builtin.Tuple.tupleExact _) (wpAny_newObj_type (wpAny_bind (wpAny_pure (wpAny_pure ⟨_, rfl, wpAny_pure h⟩))) htake)
    | exact wpAny_bind (wpAny_bind (m := Builtin.Tuple.tupleExact _) (wpAny_newObj_type (wpAny_pure (wpAny_pure ⟨_, rfl, wpAny_pure h⟩)) htake))
    | exact wpAny_bind (wpAny_bind (m := Builtin.Tuple.tupleExact _) (wpAny_newObj_type (wpAny_pure ⟨_, rfl, wpAny_pure h⟩) htake))
end
def revD : D → R D
  | .list l => .ok (.list l.reverse)
  | .tuple l => .ok (.tuple l.reverse)
  | _ => .st
section
variable {X : Cx}
def tU (f : D → R D) (te : TE) : TE := fun σ H Q => te σ H fun x H1 => ∃ A d, Trk A H1 ∧ Rp A H1 x d ∧ Aft A H1 (f d) Q
theorem pe_rev {e : Expr} {te : TE} {k : Nat} {p1 p2 p3 pos : Pos} (he : PE X e te) : PE X (.Subscript e (.Slice none none (some (.UnaryOp .USub (.Constant (.int 1) k p1) p2)) p3) pos) (tU revD te) := by
  refine ⟨fun pins s σ H Q I h => ?_⟩
  refine Subscript_ (thn (he.run pins s σ H _ I h) fun v s1 ⟨x, H1, I1, r1, A, d, tr, hd, q⟩ => ?_)
  have hst : PO X (some (.UnaryOp .USub (.Constant (.int 1) k p1) p2)) (tPart (tUn (rU fun i => .int (-i)) (tC (.int 1)))) := po_some (pe_un un_neg pe_int)
  refine wpAny_Slice (thn (po_none.run pins s1 σ H1 (fun o H2 => o = none ∧ H2 = H1) I1 ⟨rfl, rfl⟩) fun vl s2 ⟨l, H2, I2, pl, el, e2⟩ => ?_)
  subst el e2
  refine thn (po_none.run pins s2 σ H2 (fun o H3 => o = none ∧ H3 = H2) I2 ⟨rfl, rfl⟩) fun vu s3 ⟨u, H3, I3, pu, eu, e3⟩ => ?_
  subst eu e3
  refine thn (hst.run pins s3 σ H3 (fun o H4 => o = some (-1) ∧ H4 = H3) I3 ⟨1, rfl, -1, rfl, rfl, rfl⟩) fun vs s4 ⟨o, H4, I4, ps, eo, e4⟩ => ?_
  subst eo e4
  have I5 : Inv X pins σ H4 { s4 with heap := s4.heap.push { cls := .type "slice", data := .fields #[vl, vu, vs] } } := I4.kept (t' := s4.toks) fun b ob q => Heap.get?_push_of_some _ q
  have hp := I5.hok.fresh (Nat.le_refl _)
  cases hd with
  | @lst a xs ds n hr z ra =>
    cases r1
    obtain ⟨its, r, ht, hz⟩ := I5.list (.inl hr)
    have hlen := r.length
    show wpAny (model X.prog X.w) X.A (subscriptTail e (.Slice none none (some (.UnaryOp .USub (.Constant (.int 1) k p1) p2)) p3) (.ref a) (.ref s4.heap.objs.size)) (EP X pins σ Q) X.xe { s4 with heap := s4.heap.push { cls := .type "slice", data := .fields #[vl, vu, vs] } }
    refine tail_any (ops := [.ref a, .ref s4.heap.objs.size]) ht.isList.typeIs (PySem.slot_list_getitem.lookup) ?_ (by with_unfolding_all rfl)
    refine wpAny_getItem_list_slice ht.isList (Heap.IsSliceOf.new _ vl vu vs) pl pu ps (by decide) ?_ (by rw [List.size_toArray]; omega)
    rw [PySem.W.krv_pick]
    refine ⟨.ref _, _, I5.laid (t' := s4.toks) (o := .lst xs.reverse) (fun b ob q => Heap.get?_push_of_some _ q) (Nat.le_refl _) ?_, rfl, q.of _ _ (same_upd hp) (Rp.newL tr hp (by rw [List.length_reverse]; exact z) ra.reverse)⟩
    exact ⟨by rw [List.length_reverse]; exact hz, _, 0, r.reverse, Heap.get?_push_size _ rfl⟩
  | @tup a xs ds n hr z ra =>
    cases r1
    obtain ⟨its, r, ht, hz⟩ := I5.tuple (.of hr)
    have hlen := r.length
    show wpAny (model X.prog X.w) X.A (subscriptTail e (.Slice none none (some (.UnaryOp .USub (.Constant (.int 1) k p1) p2)) p3) (.ref a) (.ref s4.heap.objs.size)) (EP X pins σ Q) X.xe { s4 with heap := s4.heap.push { cls := .type "slice", data := .fields #[vl, vu, vs] } }
    refine tail_any (ops := [.ref a, .ref s4.heap.objs.size]) ht.typeIs (PyProof.Rows.slot_tuple_getitem.lookup) ?_ (by with_unfolding_all rfl)
    refine getItem_tuple_rev ht (Heap.IsSliceOf.new _ vl vu vs) pl pu ps ?_ (by rw [List.size_toArray]; omega)
    refine ⟨.ref _, _, I5.laid (t' := s4.toks) (o := .tup xs.reverse) (fun b ob q => Heap.get?_push_of_some _ q) (Nat.le_refl _) ?_, rfl, q.of _ _ (same_upd hp) (Rp.newT tr hp (by rw [List.length_reverse]; exact z) ra.reverse)⟩
    exact ⟨by rw [List.length_reverse]; exact hz, _, r.reverse, ⟨_, Heap.get?_push_size _ rfl, rfl, 0, rfl⟩⟩
  | _ => exact q.st
theorem nodupI_spec : ∀ ns : List Int, (nodupI ns).Nodup ∧ ∀ k, k ∈ nodupI ns ↔ k ∈ ns
  | [] => by simp [nodupI]
  | x :: r => by
    obtain ⟨h1, h2⟩ := nodupI_spec r
    unfold nodupI
    split
    · rename_i c
      refine ⟨h1, fun k => ?_⟩
      rw [h2]
      constructor
      · exact List.mem_cons_of_mem _
      · intro h
        rcases List.mem_cons.mp h with rfl | h
        · exact c
        · exact h
    · rename_i c
      refine ⟨List.nodup_cons.mpr ⟨fun h => c ((h2 x).mp h), h1⟩, fun k => ?_⟩
      simp [h2]
theorem pe_lenSetD {a : Expr} {ta : TE} {p p2 q pos : Pos} (hc : X.calm = true) (hg : Gl X "len") (hm : X.mg "len" = none) (hg2 : Gl X "set") (hm2 : X.mg "set" = none) (ha : PE X a ta)
    (na : starEach [a] X.env = (false, eval a X.env) :: starEach [] X.env := by rfl) : PE X (.Call (.Name "len" p) [.Call (.Name "set" p2) [a] [] q] [] pos) (tU (fun d => evBi .lenSet [d]) ta) := by
  refine ⟨fun pins s σ H Q I h => ?_⟩
  refine Call_ (ld_blt I hg hm PySem.boot_len ?_)
  refine PyProof.Rows.callWith_builtin1 (PyProof.Rows.args_cons ?_ rfl) rfl rfl
  refine Call_ (ld_blt I hg2 hm2 PyProof.Rows.boot_set ?_)
  refine PyProof.Rows.callWith_type1 (PyProof.Rows.args_cons (thn (ha.run pins s σ H _ I h) fun v s1 ⟨x, H1, I1, r1, q1⟩ => PyProof.Rows.args_nil ?_) na) na rfl
  obtain ⟨A, d, tr, hd, hq⟩ := q1
  cases hd with
  | tup n hr z ra =>
    cases r1
    obtain ⟨e, he, q⟩ := hq
    simp only [evBi] at he
    split at he
    · rename_i ns e'
      split at he
      · rename_i c
        cases he
        have ra' := ra.asInts e'
        rw [ra'] at hr
        obtain ⟨its, r, pl, hz⟩ := I1.tuple (.of hr)
        refine L2.call_set_tupI ns (I1.ok.hd hc) pl (by simpa using RZ.intsAre_vals r) (by unfold scanBound; omega) fun h' tk cc hS hcc hk => ?_
        refine PyProof.Rows.args_nil ?_
        obtain ⟨o, es, ep, t, ho, hex, hdt, _, hnd, hmem, hsb, hf, hn, _⟩ := hS
        have I2 : Inv X pins σ H1 { s1 with heap := h', toks := tk } := I1.kept fun b o e => hk b o e
        have hlen : es.size = (nodupI ns).length := by
          obtain ⟨g1, g2⟩ := nodupI_spec ns
          have := (List.perm_ext_iff_of_nodup hnd g1).mpr fun k => by
            rw [g2, ← hmem]
            exact decide_eq_true_iff
          have := this.length_eq
          simpa using this
        refine call_len_set ho hex hdt hf (by unfold scanBound at hsb; omega) ⟨.int es.size, H1, I2.tok _, ⟨_, rfl⟩, ?_⟩
        rw [hlen]
        exact q _ _ (Same.refl H1) (.int _)
      · cases he
    · cases he
  | _ => exact hq.st
/-- isinstance(x, int), .. -/
def kTy : Bi → String
  | .isInt => "int"
  | .isStr => "str"
  | .isTup => "tuple"
  | _ => "bool"
theorem isi_D {b : Bi} (hb : b = .isInt ∨ b = .isStr ∨ b = .isBool ∨ b = .isTup) : CallR X (.builtin "isinstance") (fun vs H Q => ∃ A a x, vs = [x, .ty (kTy b)] ∧ Trk A H ∧ Rp A H x a ∧ Aft A H (evBi b [a]) Q) := by
  intro pins s σ H xs us Q I r h
  obtain ⟨A, a, x, rfl, tr, ha, hq⟩ := h
  have go : ∀ (t : String) (k : Bool), TyX X.K H x (.type t) → kitB t (kTy b) = some k → Q (.bl k) H → wpAny (model X.prog X.w) X.A (PySem.call (.builtin "isinstance") us) (EP X pins σ Q) X.xe s :=
    fun t k h1 h2 h3 => call_isi pins s σ H _ us Q I r ⟨x, _, _, _, k, rfl, .ty _, h1, kit_ty h2, h3⟩
  have lstT : ∀ {p : Addr} {xs : List V}, Rd H p (.lst xs) → TyX X.K H (.ref p) (.type "list") := fun h => by
    rcases h with h | ⟨o, h⟩
    · exact .base (.lst h)
    · exact .base (.frz h)
  rcases hb with rfl | rfl | rfl | rfl <;> cases ha with
  | non => first | exact hq.st | exact go "NoneType" _ (.base .non) (by decide +kernel) (hq.of _ _ (Same.refl H) (.bl _))
  | bl i => first | exact hq.st | exact go "bool" _ (.base (.bl _)) (by decide +kernel) (hq.of _ _ (Same.refl H) (.bl _))
  | int i => first | exact hq.st | exact go "int" _ (.base (.int _)) (by decide +kernel) (hq.of _ _ (Same.refl H) (.bl _))
  | str i => first | exact hq.st | exact go "str" _ (.base (.str _)) (by decide +kernel) (hq.of _ _ (Same.refl H) (.bl _))
  | lst n h z ra => first | exact hq.st | exact go "list" _ (lstT h) (by decide +kernel) (hq.of _ _ (Same.refl H) (.bl _))
  | tup n h z ra => first | exact hq.st | exact go "tuple" _ (.base (.tup h)) (by decide +kernel) (hq.of _ _ (Same.refl H) (.bl _))
theorem indexD_spec {d : D} : ∀ (l : List D) (k m : Int), indexD l d k = some m → ∃ (j : Nat) (z : D), m = k + j ∧ l[j]? = some z ∧ PyData.eqv z d = true ∧ ∀ (i : Nat) (z' : D), i < j → l[i]? = some z' → PyData.eqv z' d = false
  | [], k, m, h => by simp [indexD] at h
  | y :: r, k, m, h => by
    unfold indexD at h
    split at h
    · rename_i c
      cases h
      exact ⟨0, y, by simp, rfl, c, fun i z' hi => by omega⟩
    · rename_i c
      obtain ⟨j, z, e1, e2, e3, e4⟩ := indexD_spec r (k + 1) m h
      refine ⟨j + 1, z, by omega, by simpa using e2, e3, fun i z' hi hz => ?_⟩
      cases i with
      | zero =>
        simp at hz; subst hz
        simpa using c
      | succ i => exact e4 i z' (by omega) (by simpa using hz)
/-- a method of a built-in type, by the receiver's value -/
def MtD (X : Cx) (name : Str) (x : V) (H : Hp) (r : V → List V → Hp → VK → Prop) : Prop := ∃ T id, PlainAttrs T ∧ Slot T name id ∧ typeOf (.builtin id) = pure (.type "method_descriptor") ∧ MtR X id r ∧ tyV X.K T x H
theorem pe_bmD {o e : Expr} {es : List Expr} {to : TE} {t : TA} {name : Str} {apos cpos : Pos} (ho : PE X o to) (ha : PA X (e :: es) t)
    (hbase : attributeBase o name X.env (eval o X.env) = eval o X.env)
    (hfew : ((backTo cpos (starEach (e :: es) X.env)).all (fun x => !x.1) && (backToKw cpos (keywordEach [] X.env)).all (fun x => x.1.isSome)
      && decide ((e :: es).length + ([] : List Keyword).length + (if ([] : List Keyword).isEmpty then 0 else 1) < 30)) = true)
    (hline : (apos.endLine == cpos.line) = true) (hs : starEach (e :: es) X.env = (false, eval e X.env) :: starEach es X.env) (hplain : (backTo cpos (starEach es X.env)).any (·.1) = false) :
    PE X (.Call (.Attribute o name apos) (e :: es) [] cpos) (fun σ H Q => to σ H fun x H1 => ∃ r, MtD X name x H1 r ∧ t σ H1 fun xs H2 => r x xs H2 Q) := by
  refine ⟨fun pins s σ H Q I h => ?_⟩
  refine wpAny_Call_method_late hbase hfew hline rfl (thn (ho.run pins s σ H _ I h) fun v s1 ⟨x, H1, I1, r1, r, ⟨T, id, pa, slot, hty, hm, ty⟩, q1⟩ => ?_)
  obtain ⟨h1, h2⟩ := tyV_is I1 r1 ty
  refine ⟨T, id, pa, slot, hty, h1, h2, ?_⟩
  have hA := ha.run cpos pins s1 σ H1 _ I1 q1
  rw [hs] at hA ⊢
  refine Calls.callWith_builtin (by show (false || (backTo cpos (starEach es X.env)).any (·.1)) = false; rw [hplain] <;> rfl) (Calls.evalArgs_plain ?_)
  exact thn hA fun us s2 ⟨vs, H2, I2, r2, q2⟩ => hm pins s2 σ H2 x vs v us Q I2 r1 r2 q2
theorem mt_tindexS : MtR X "tuple.index" (fun x vs H Q => ∃ (a : Addr) (ys : List Str) (z : Str), x = .ref a ∧ vs = [.str z] ∧ H a = some (.tup (ys.map V.str)) ∧ z ∈ ys ∧ Q (.int (ys.idxOf z : Nat)) H) := by
  intro pins s σ H x xs v us Q I rx rxs h
  obtain ⟨a, ys, z, rfl, rfl, ht, hz, q⟩ := h
  cases rx
  obtain ⟨u, rfl, ru⟩ := rxs.one
  obtain ⟨t, rfl⟩ := ru
  obtain ⟨its, rv, pl, hlen⟩ := I.tuple (.of ht)
  exact PySem.SeqAt.tuple_index_strs pl (Vals.strs rv) hz ⟨.int (ys.idxOf z : Nat), H, I.tok _, ⟨s.toks, rfl⟩, q⟩
theorem pa_strs : ∀ {es : List Expr} {ys : List Str}, strsC es = some ys → PA X es (fun _ H Q => Q (ys.map V.str) H) ∧ es.length = ys.length
  | [], ys, h => by cases h; exact ⟨pa_nil, rfl⟩
  | .Constant (.str s) k pos :: r, ys, h => by
    simp only [strsC, Option.map_eq_some_iff] at h
    obtain ⟨zs, h, rfl⟩ := h
    obtain ⟨h1, h2⟩ := pa_strs h
    exact ⟨pa_cons pe_str h1, by simp [h2]⟩
  | .Name _ _ :: r, ys, h => by simp [strsC] at h
/-- (texts).index(x) of a written tuple -/
theorem pe_tix {es : List Expr} {ys : List Str} {k : Nat} {tp ap pos : Pos} {a : Expr} {ta : TE} (h : strsC es = some ys) (hz : es.length ≤ 1000) (ha : PE X a ta) (hs : starEach [a] X.env = (false, eval a X.env) :: starEach [] X.env)
    (hline : (ap.endLine == pos.line) = true) :
    PE X (.Call (.Attribute (.Tuple es k tp) "index" ap) [a] [] pos) (fun σ H Q => ∀ t, H t = none → ta σ (upd H t (.tup (ys.map V.str))) fun x H1 => ∃ z, [x] = [V.str z] ∧ H1 t = some (.tup (ys.map V.str)) ∧ z ∈ ys ∧ Q (.int (ys.idxOf z : Nat)) H1) := by
  refine ⟨fun pins s σ H Q I hq => ?_⟩
  obtain ⟨hp, hlen⟩ := pa_strs (X := X) h
  refine wpAny_Call_method_late rfl ?_ hline rfl (wpAny_Tuple_spliced (thn (hp.run tp pins s σ H (fun xs H1 => xs = ys.map V.str ∧ H1 = H) I ⟨rfl, rfl⟩) fun us s1 ⟨xs, H1, I1, r, e1, e2⟩ => ⟨?_, ?_⟩))
  · rw [hs]; rfl
  · subst e1
    have := r.length
    rw [List.length_map] at this
    have : (1000 : Nat) ≤ sizeLine := by decide
    omega
  · subst e1 e2
    have hf : H1 s1.heap.objs.size = none := I1.hok.fresh (Nat.le_refl _)
    have I2 : Inv X pins σ (upd H1 s1.heap.objs.size (.tup (ys.map V.str))) { s1 with heap := s1.heap.push { cls := .type "tuple", data := .seq us.toArray } } := I1.laid (t' := s1.toks) (fun b u e => Heap.get?_push_of_some _ e) (Nat.le_refl _) (by
      refine ⟨?_, us, r, ⟨_, Heap.get?_push_size _ rfl, rfl, _, rfl⟩⟩
      rw [List.length_map]
      have : (1000 : Nat) ≤ sizeLine := by decide
      omega)
    refine ⟨"tuple", "tuple.index", PySem.F.plainAttrs_tuple, PySem.F.slot_tuple_index, PySem.F.type_tuple_index, ⟨_, Heap.get?_push_size _ rfl, rfl⟩, fun a e => by cases e; exact ⟨_, Heap.get?_push_size _ rfl, rfl⟩, ?_⟩
    have hA := (pa_cons ha pa_nil hs).run pos pins _ σ _ (fun vs H2 => ∃ z, vs = [V.str z] ∧ H2 s1.heap.objs.size = some (.tup (ys.map V.str)) ∧ z ∈ ys ∧ Q (.int (ys.idxOf z : Nat)) H2) I2 (hq _ hf)
    rw [hs] at hA ⊢
    refine Calls.callWith_builtin (by rfl) (Calls.evalArgs_plain ?_)
    exact thn hA fun us s2 ⟨vs, H2, I2, r2, z, e, q1, q2, q3⟩ => mt_tindexS pins s2 σ H2 (V.ref s1.heap.objs.size) vs _ us Q I2 rfl r2 ⟨_, ys, z, rfl, e, q1, q2, q3⟩
def rM (m : Mt) (d : D) : V → List V → Hp → VK → Prop := fun x vs H Q => ∃ A y c, vs = [y] ∧ Trk A H ∧ Rp A H x d ∧ Rp A H y c ∧ Aft A H (evMt m d c) Q
def mtName : Mt → Str
  | .index => "index"
  | .count => "count"
  | .join => "join"
  | .split => "split"
theorem strsOf_some : ∀ {ds : List D} {ns : List Str}, strsOf ds = some ns → ds = ns.map PyData.str
  | [], ns, h => by cases h; rfl
  | .str i :: r, ns, h => by
    simp only [strsOf, Option.map_eq_some_iff] at h
    obtain ⟨ms, h, rfl⟩ := h
    rw [strsOf_some h]; rfl
  | .none :: _, _, h => by simp [strsOf] at h
  | .bool _ :: _, _, h => by simp [strsOf] at h
  | .int _ :: _, _, h => by simp [strsOf] at h
  | .list _ :: _, _, h => by simp [strsOf] at h
  | .tuple _ :: _, _, h => by simp [strsOf] at h
  | .dict _ :: _, _, h => by simp [strsOf] at h
theorem RpA.strs {A : Addr → Prop} {H : Hp} : ∀ {ns : List Str} {vs : List V}, RpA A H vs (ns.map PyData.str) → vs = ns.map V.str
  | [], _, .nil => rfl
  | n :: ns, _, .cons h r => by
    cases h
    rw [RpA.strs r]; rfl
theorem RpA.ofStrs {A : Addr → Prop} {H : Hp} : ∀ {ns : List Str}, RpA A H (ns.map V.str) (ns.map PyData.str)
  | [] => .nil
  | n :: ns => .cons (.str n) RpA.ofStrs
theorem m_D (hu : X.A.units + 65 < cLine) {m : Mt} {d : D} {x : V} {A : Addr → Prop} {H : Hp} (hx : Rp A H x d) (h : mOk m d = true) : MtD X (mtName m) x H (rM m d) := by
  have tyL : ∀ {p : Addr} {xs : List V}, Rd H p (.lst xs) → tyV X.K "list" (.ref p) H := fun h => .inl ⟨rfl, _, .inl h⟩
  cases m with
  | index =>
    cases hx with
    | lst n hr z ra =>
      refine ⟨"list", _, PySem.F.plainAttrs_list, PySem.F.slot_list_index, PySem.F.type_list_index, ?_, tyL hr⟩
      intro pins s σ H x xs v us Q I rx rs h
      obtain ⟨A, y, c, rfl, tr, ha, hc, d, e, q⟩ := h
      simp only [evMt] at e
      split at e
      · rename_i g
        rw [Bool.and_eq_true] at g
        split at e
        · rename_i k e'
          cases e
          obtain ⟨j, zz, e1, e2, e3, e4⟩ := indexD_spec _ 0 k e'
          have e5 : k = (j : Int) := by omega
          subst e5
          cases ha with
          | lst n hr z ra => exact mt_indexD hu pins s σ H _ _ v us Q I rx rs ⟨_, y, c, _, j, zz, rfl, rfl, Rp.dp _ _ (.lst n hr z ra), Rp.dp _ _ hc, g.1, g.2, e2, e3, e4, q _ _ (Same.refl H) (.int _)⟩
        · cases e
      · cases e
    | _ => cases h
  | count =>
    cases hx with
    | lst n hr z ra =>
      refine ⟨"list", _, PySem.F.plainAttrs_list, PySem.F.slot_list_count, PySem.F.type_list_count, ?_, tyL hr⟩
      intro pins s σ H x xs v us Q I rx rs h
      obtain ⟨A, y, c, rfl, tr, ha, hc, hq⟩ := h
      cases ha with
      | lst n hr z ra =>
      cases hc with
      | int i =>
        obtain ⟨d, e, q⟩ := hq
        simp only [evMt] at e
        split at e
        · rename_i ns e'
          cases e
          rw [ra.asInts e'] at hr
          exact mt_lcount pins s σ H _ _ v us Q I rx rs ⟨_, ns, i, rfl, rfl, .inl hr, q _ _ (Same.refl H) (.int _)⟩
        · cases e
      | _ => exact hq.st
    | _ => cases h
  | join =>
    cases hx with
    | str a =>
      refine ⟨"str", _, PySem.F.plainAttrs_str, PySem.F.slot_str_join, PySem.F.type_str_join, ?_, rfl⟩
      intro pins s σ H x xs v us Q I rx rs h
      obtain ⟨A, y, c, rfl, tr, ha, hc, hq⟩ := h
      cases ha
      cases hc with
      | lst n hr z ra =>
        obtain ⟨d, e, q⟩ := hq
        simp only [evMt] at e
        split at e
        · rename_i ys e'
          split at e
          · rename_i c
            cases e
            rw [strsOf_some e'] at ra
            rw [ra.strs] at hr
            exact mt_join pins s σ H _ _ v us Q I rx rs ⟨a, _, ys, rfl, rfl, .inl (.inl hr), c, q _ _ (Same.refl H) (.str _)⟩
          · cases e
        · cases e
      | _ => exact hq.st
    | _ => cases h
  | split =>
    cases hx with
    | str a =>
      refine ⟨"str", _, PySem.F.plainAttrs_str, PySem.F.slot_str_split, PySem.F.type_str_split, ?_, rfl⟩
      intro pins s σ H x xs v us Q I rx rs h
      obtain ⟨A, y, c, rfl, tr, ha, hc, hq⟩ := h
      cases ha
      cases hc with
      | str b =>
        obtain ⟨⟨c1, c2, c3⟩, hq⟩ := hq.ite
        refine mt_split pins s σ H _ _ v us Q I rx rs ⟨a, b, rfl, rfl, c1, c2, fun t ht => hq.of _ _ (same_upd ht) (Rp.newL tr ht ?_ RpA.ofStrs)⟩
        rw [List.length_map]; exact c3
      | _ => exact hq.st
    | _ => cases h
end
end PC

set_option Elab.async false
set_option linter.all false
/-! PC8: what a reading of the intermediate language asks; iterators. -/
namespace PC
open PySem PySem.Spec PyProof.Rows L2
/-- the surroundings of a reading: the functions, the classes' places, what is wanted of an exception, the exception that a suite holds -/
structure Pm where
  Φ : Phi
  ec : Str → Addr
  W : WX
  sx : Option (Nat × Str × Addr)
  nl : Nat
def spOf (ec : Str → Addr) (n : Nat) (F : List D → R D) : Sp := fun vs H Q E => vs.length = n ∧ ∃ A ds, Trk A H ∧ RpA A H vs ds ∧ match F ds with
  | .ok d => ∀ v H', Same H H' → Rp A H' v d → Q v H'
  | .ex c => ∀ H', Same H H' → E (.ref (ec c)) none H'
  | .st => False
def biNames : List Str := ["len", "abs", "min", "max", "sorted", "sum", "all", "any", "int", "tuple", "list", "str", "range", "enumerate", "set", "isinstance", "bool"]
structure Cl (K : PySem.W.Frag) (mg : Str → Option Value) (C : Addr) (c : Str) : Prop where
  gl : mg c = some (.ref C)
  kp : PySem.W.keepIn K (.ref C) = true
  mke : PySem.W.excIn K C [.type "ValueError", .type "Exception", .type "BaseException", .type "object"] "ValueError.__new__" = true
  sb : PySem.W.subIn K (.ref C) (.type "BaseException") = some true
  ty : PySem.W.typeIn K (.ref C) = some (.type "type")
structure Lk (g : G) (Φ : Phi) (ec : Str → Addr) (P : Program) (w : World) (K : PySem.W.Frag) (mg : Str → Option Value) (base : Heap) (k : Nat) : Prop where
  fn : ∀ f n, g.fns.lookup f = some n → ∃ fa fd ps, mg f = some (.ref fa) ∧ PySem.W.keepIn K (.ref fa) = true ∧ Binds K fd ps [] ∧ ps.length = n ∧ FnOk P w K mg base (L2.CX P w) k fa fd ps (spOf ec n (Φ f))
  bi : ∀ x, x ∈ biNames → mg x = none
  ci : ∀ x i, g.cis.lookup x = some i → ∃ t, mg x = some (.int i t)
  ct : ∀ x l, g.cts.lookup x = some l → ∃ a, mg x = some (.ref a) ∧ ∀ H, Dp K H (.ref a) (.tuple l)
  cl : ∀ c, c ∈ g.ecs → Cl K mg (ec c) c
  ex : ∀ c d, c ∈ g.ecs → d ∈ g.ecs → PySem.W.exmOne K (.ref (ec c)) (.ref (ec d)) = some (subC c d)
  ix : g.isx = true → ∀ c d, c ∈ g.ecs → d ∈ g.ecs → ExcC K (ec c) ∧ PySem.W.kitOne K (.ref (ec c)) (.ref (ec d)) = some (subC c d)
/-- only classes that are known are raised -/
structure OkX (g : G) (k : Nat) (cm : Bool) (sc : Scope) (X : Cx) (p : Pm) : Prop where
  hN : X.N = g.N
  nl : p.nl = g.N.length
  nd : g.N.Nodup
  sc : X.env.scope = sc
  cal : X.calm = cm
  room : cm = true → Room k X.A
  un : X.A.units + 150 < cLine
  lk : Lk g p.Φ p.ec X.prog X.w X.K X.mg X.base k
  tk : Takes X p.W
  nosx : cm = true → p.sx = none
  sx : ∀ i c a, p.sx = some (i, c, a) → c ∈ g.ecs ∧ ∃ (X0 : Cx) (oe : Obj) (pn : List (Addr × Obj)), X = X0.suite a ((a, oe) :: pn) ∧ Zc (.ref (p.ec c)) none oe ∧ ∃ vs, oe.data = .fields vs
def RR (S : List Nat) (A : Addr → Prop) (env : Env) (σ : L2.St) (H : Hp) : Prop := ∀ i ∈ S, ∀ d, rdS (geti env i) = .ok d → ∃ v, σ[i]? = some (some v) ∧ Rp A H v d
def XS (sx : Option (Nat × Str × Addr)) (env : Env) (σ : L2.St) : Prop := ∀ i c, geti env i = .x c → ∃ a, sx = some (i, c, a) ∧ σ[i]? = some (some (.ref a))
structure Pre (p : Pm) (S : List Nat) (A : Addr → Prop) (env : Env) (σ : L2.St) (H : Hp) : Prop where
  tr : Trk A H
  rr : RR S A env σ H
  xs : XS p.sx env σ
  len : σ.length = p.nl
def After {α : Type} (p : Pm) (σ : L2.St) (H : Hp) (r : R α) (k : α → Hp → Prop) : Prop := match r with
  | .ok a => ∀ H', Same H H' → k a H'
  | .ex c => ∀ H', Same H H' → p.W (.ref (p.ec c)) none σ H'
  | .st => False
section
variable {α β : Type} {p : Pm} {σ : L2.St} {H H' : Hp} {A : Addr → Prop} {S S' : List Nat} {env : Env}
theorem After.bind {r : R α} {f : α → R β} {k : β → Hp → Prop} (h : After p σ H (r.bind f) k) : After p σ H r fun a H1 => After p σ H1 (f a) k := by
  cases r with
  | ok a =>
    intro H1 s1
    have h : After p σ H (f a) k := h
    show After p σ H1 (f a) k
    cases e : f a with
    | ok b => rw [e] at h; exact fun H2 s2 => h H2 (s1.trans s2)
    | ex c => rw [e] at h; exact fun H2 s2 => h H2 (s1.trans s2)
    | st => rw [e] at h; exact h.elim
  | ex c => exact h
  | st => exact h
theorem After.mono {r : R α} {k k' : α → Hp → Prop} (h : After p σ H r k) (m : ∀ a H', Same H H' → k a H' → k' a H') : After p σ H r k' := by
  cases r with
  | ok a => exact fun H' s => m a H' s (h H' s)
  | ex c => exact h
  | st => exact h
theorem After.here {a : α} {k : α → Hp → Prop} (h : After p σ H (.ok a) k) : k a H := h H (Same.refl H)
theorem After.from {r : R α} {k : α → Hp → Prop} (s : Same H H') (h : After p σ H r k) : After p σ H' r k := by
  cases r with
  | ok a => exact fun H2 s2 => h H2 (s.trans s2)
  | ex c => exact fun H2 s2 => h H2 (s.trans s2)
  | st => exact h
theorem RR.same (s : Same H H') (h : RR S A env σ H) : RR S A env σ H' := fun i hi d e => by
  obtain ⟨v, e1, e2⟩ := h i hi d e
  exact ⟨v, e1, Rp.same s d v e2⟩
theorem RR.sub (s : ∀ i ∈ S', i ∈ S) (h : RR S A env σ H) : RR S' A env σ H := fun i hi => h i (s i hi)
theorem Pre.same (s : Same H H') (h : Pre p S A env σ H) : Pre p S A env σ H' := ⟨h.tr.same s, h.rr.same s, h.xs, h.len⟩
theorem Pre.sub (h : Pre p S A env σ H) (s : ∀ i ∈ S', i ∈ S) : Pre p S' A env σ H := ⟨h.tr, h.rr.sub s, h.xs, h.len⟩
theorem Pre.left {S1 S2 : List Nat} (h : Pre p (S1 ++ S2) A env σ H) : Pre p S1 A env σ H := h.sub fun _ q => List.mem_append_left _ q
theorem Pre.right {S1 S2 : List Nat} (h : Pre p (S1 ++ S2) A env σ H) : Pre p S2 A env σ H := h.sub fun _ q => List.mem_append_right _ q
end
/-! ### the readings -/
def kD (A : Addr → Prop) (Q : VK) : D → Hp → Prop := fun d H' => ∀ v, Rp A H' v d → Q v H'
def tE (p : Pm) (e : E) : TE := fun σ H Q => ∃ A env, Pre p e.vars A env σ H ∧ After p σ H (evE p.Φ e env) (kD A Q)
def tT (p : Pm) (e : E) : TT := fun σ H Q => ∃ A env, Pre p e.vars A env σ H ∧ After p σ H (toB (evE p.Φ e env)) Q
def tEs (p : Pm) (e : Es) : TA := fun σ H Q => ∃ A env, Pre p e.vars A env σ H ∧ After p σ H (evs p.Φ e env) (fun ds H' => ∀ vs, RpA A H' vs ds → Q vs H')
def tO (p : Pm) (e : Oe) : TO := fun σ H Q => ∃ A env, Pre p e.vars A env σ H ∧ After p σ H (evO p.Φ e env) Q
def tF (p : Pm) (e : Oe) : TT := fun σ H Q => ∃ A env, Pre p e.vars A env σ H ∧ After p σ H (evT p.Φ e env) Q
def tCh (p : Pm) (e : Cs) (x : V) : TE := fun σ H Q => ∃ A env d, Pre p e.vars A env σ H ∧ Rp A H x d ∧ After p σ H (evC p.Φ e d env) (kD A Q)
def tChT (p : Pm) (e : Cs) (x : V) : TT := fun σ H Q => ∃ A env d, Pre p e.vars A env σ H ∧ Rp A H x d ∧ After p σ H (toB (evC p.Φ e d env)) Q
theorem After.toB {p : Pm} {σ : L2.St} {H : Hp} {r : R D} {Q : Bool → Hp → Prop} (h : After p σ H (PC.toB r) Q) : After p σ H r fun d H' => ∃ b, d = .bool b ∧ Q b H' := by
  cases r with
  | ok d => cases d with
    | bool b => exact fun H' s => ⟨b, rfl, h H' s⟩
    | _ => exact False.elim h
  | ex c => exact h
  | st => exact h
/-! ### what changes only in the avoided objects -/
def Keep (A : Addr → Prop) (H H' : Hp) : Prop := ∀ a o, H a = some o → ¬ A a → H' a = some o
theorem Keep.of {A : Addr → Prop} {H H' : Hp} (s : Same H H') : Keep A H H' := fun a o e _ => s a o e
theorem Rd.keep {A : Addr → Prop} {H H' : Hp} {a : Addr} {u : HO} (s : Keep A H H') (n : ¬ A a) (h : Rd H a u) : Rd H' a u := by
  rcases h with h | ⟨o, h⟩
  · exact .inl (s _ _ h n)
  · exact .inr ⟨o, s _ _ h n⟩
theorem Rd.some {H : Hp} {a : Addr} {u : HO} (h : Rd H a u) : H a ≠ none := by
  rcases h with h | ⟨o, h⟩ <;> rw [h] <;> simp
section
variable {A B : Addr → Prop} {H H' : Hp}
mutual
theorem Rp.keep (s : Keep A H H') (hb : ∀ a, B a → A a ∨ H a = none) : ∀ (d : D) (v : V), Rp A H v d → Rp B H' v d
  | .none, _, .non => .non
  | .bool _, _, .bl b => .bl b
  | .int _, _, .int i => .int i
  | .str _, _, .str x => .str x
  | .list ds, _, .lst n h z r => .lst (fun q => (hb _ q).elim n fun e => absurd e (Rd.some h)) (Rd.keep s n h) z (RpA.keep s hb ds _ r)
  | .tuple ds, _, .tup n h z r => .tup (fun q => (hb _ q).elim n fun e => by rw [h] at e; cases e) (s _ _ h n) z (RpA.keep s hb ds _ r)
theorem RpA.keep (s : Keep A H H') (hb : ∀ a, B a → A a ∨ H a = none) : ∀ (ds : List D) (vs : List V), RpA A H vs ds → RpA B H' vs ds
  | [], _, .nil => .nil
  | d :: ds, _, .cons h r => .cons (Rp.keep s hb d _ h) (RpA.keep s hb ds _ r)
end
end
/-! ### iterators -/
structure Runs (A : Addr → Prop) (J : It) (ds : List D) (H1 : Hp) : Prop where
  go : ∀ i Hc, Keep A H1 Hc → i < ds.length → J.go i Hc
  stop : ∀ i Hc, Keep A H1 Hc → ds.length ≤ i → J.stop i Hc
  yld : ∀ i Hc x H' B, i < ds.length → Keep A H1 Hc → Trk B Hc → (∀ a, B a → A a ∨ H1 a = none) → J.yld i Hc x H' → ∃ d, ds[i]? = some d ∧ Same Hc H' ∧ Rp B H' x d
def AI (it : I) (A : Addr → Prop) : Addr → Prop := match it with
  | .e _ => A
  | .en _ => A
  | _ => fun _ => True
theorem aI {it : I} {A : Addr → Prop} {a : Addr} (h : A a) : AI it A a := by cases it <;> first | exact h | exact trivial
def tI (p : Pm) (it : I) : TI := fun σ H R => ∃ A env, Pre p it.vars A env σ H ∧ After p σ H (evI p.Φ it env) (fun ds H1 => ∀ J, Runs (AI it A) J ds H1 → ds.length ≤ sizeLine → R J H1)
section
variable {X : Cx} {tg : Expr}
def iSeq (K : PySem.W.Frag) (tl : TE) : TI := fun σ H R => tl σ H fun x H1 => ∃ a xs, x = .ref a ∧ ((Rd H1 a (.lst xs) ∧ R (Itl K a) H1) ∨ (H1 a = some (.tup xs) ∧ R (Itt K a) H1))
theorem pi_seq {l : Expr} {tl : TE} (hl : PE X l tl) : PI X tg l (iSeq X.K tl) := by
  refine ⟨fun pins s σ H R I h => ?_⟩
  refine thn (hl.run pins s σ H _ I h) fun v s1 ⟨x, H1, I1, r1, q1⟩ => ?_
  obtain ⟨a, xs, e, q⟩ := q1
  subst e
  cases r1
  rcases q with ⟨hq, q⟩ | ⟨hq, q⟩
  · obtain ⟨its, rv, p, hz⟩ := I1.list (.inl hq)
    refine wpAny_pyIter_list p.isList ?_
    refine ⟨s1.heap.objs.size, [s1.heap.objs.size], _, _, H1, rfl, I1.kept (t' := s1.toks) fun b o e => Heap.get?_push_of_some _ e, turn_list a _, ⟨_, Heap.get?_push_size _ rfl, rfl, rfl⟩, fun b hb => ?_, q⟩
    have e : b = s1.heap.objs.size := by simpa using hb
    subst e
    exact I1.fpOk (Nat.le_refl _) (I1.hok.fresh (Nat.le_refl _))
  · obtain ⟨its, rv, p, hz⟩ := I1.tuple (.of hq)
    refine wpAny_pyIter_tuple (show s1.heap.IsTuple a its.toArray from p) ?_
    refine ⟨s1.heap.objs.size, [s1.heap.objs.size], _, _, H1, rfl, I1.kept (t' := s1.toks) fun b o e => Heap.get?_push_of_some _ e, turn_tuple a _, ⟨_, Heap.get?_push_size _ rfl, rfl, rfl⟩, fun b hb => ?_, q⟩
    have e : b = s1.heap.objs.size := by simpa using hb
    subst e
    exact I1.fpOk (Nat.le_refl _) (I1.hok.fresh (Nat.le_refl _))
theorem Runs.list {K : PySem.W.Frag} {A : Addr → Prop} {a : Addr} {xs : List V} {ds : List D} {H1 : Hp} (n : ¬ A a) (h : Rd H1 a (.lst xs)) (r : RpA A H1 xs ds) : Runs A (Itl K a) ds H1 where
  go := fun i Hc s hi => by
    have hl := r.length
    exact ⟨xs, xs[i]'(by omega), .inl (Rd.keep s n h), by simp⟩
  stop := fun i Hc s hi => ⟨xs, .inl (Rd.keep s n h), by have hl := r.length; omega⟩
  yld := fun i Hc x H' B hi s tb hb ⟨e, f⟩ => by
    subst e
    have e1 := f xs (.inl (Rd.keep s n h))
    obtain ⟨d, e2, e3⟩ := r.getV e1
    exact ⟨d, e2, Same.refl _, Rp.keep s hb d x e3⟩
theorem Runs.tup {K : PySem.W.Frag} {A : Addr → Prop} {a : Addr} {xs : List V} {ds : List D} {H1 : Hp} (n : ¬ A a) (h : H1 a = some (.tup xs)) (r : RpA A H1 xs ds) : Runs A (Itt K a) ds H1 where
  go := fun i Hc s hi => by
    have hl := r.length
    exact ⟨xs, xs[i]'(by omega), .of (s _ _ h n), by simp⟩
  stop := fun i Hc s hi => ⟨xs, .of (s _ _ h n), by have hl := r.length; omega⟩
  yld := fun i Hc x H' B hi s tb hb ⟨e, f⟩ => by
    subst e
    have e1 := f xs (.of (s _ _ h n))
    obtain ⟨d, e2, e3⟩ := r.getV e1
    exact ⟨d, e2, Same.refl _, Rp.keep s hb d x e3⟩
theorem iota_get : ∀ (n : Nat) (lo : Int) (i : Nat), i < n → (iota lo n)[i]? = some (lo + i)
  | 0, _, _, h => by omega
  | n + 1, lo, 0, _ => by simp [iota]
  | n + 1, lo, i + 1, h => by
    simp only [iota, List.getElem?_cons_succ]
    rw [iota_get n (lo + 1) i (by omega)]
    congr 1
    omega
theorem iota_length : ∀ (n : Nat) (lo : Int), (iota lo n).length = n
  | 0, _ => rfl
  | n + 1, lo => by simp [iota, iota_length n]
theorem Runs.rng {A : Addr → Prop} {a b : Int} {H1 : Hp} : Runs A (Itr a (b - a).toNat) (rgD a b) H1 where
  go := fun i Hc s hi => by
    have e : (rgD a b).length = (b - a).toNat := by simp [rgD, iota_length]
    rw [e] at hi
    exact hi
  stop := fun i Hc s hi => by
    have e : (rgD a b).length = (b - a).toNat := by simp [rgD, iota_length]
    rw [e] at hi
    exact hi
  yld := fun i Hc x H' B hi s tb hb ⟨e1, e2⟩ => by
    subst e1 e2
    have e : (rgD a b).length = (b - a).toNat := by simp [rgD, iota_length]
    rw [e] at hi
    refine ⟨.int (a + i), ?_, Same.refl _, .int _⟩
    unfold rgD
    rw [List.getElem?_map, iota_get _ _ _ hi]
    rfl
theorem Runs.rng3 {A : Addr → Prop} {a b : Int} {H1 : Hp} : Runs A (Itc a (-1) (a - b).toNat) ((iota 0 (a - b).toNat).map fun m => .int (a - m)) H1 where
  go := fun i Hc s hi => by
    have e : ((iota 0 (a - b).toNat).map fun m => PyData.int (a - m)).length = (a - b).toNat := by simp [iota_length]
    rw [e] at hi
    exact hi
  stop := fun i Hc s hi => by
    have e : ((iota 0 (a - b).toNat).map fun m => PyData.int (a - m)).length = (a - b).toNat := by simp [iota_length]
    rw [e] at hi
    exact hi
  yld := fun i Hc x H' B hi s tb hb ⟨e1, e2⟩ => by
    subst e1 e2
    have e : ((iota 0 (a - b).toNat).map fun m => PyData.int (a - m)).length = (a - b).toNat := by simp [iota_length]
    rw [e] at hi
    refine ⟨.int (a + (i : Nat) * (-1)), ?_, Same.refl _, .int _⟩
    rw [List.getElem?_map, iota_get _ _ _ hi]
    have e2 : a - (0 + (i : Int)) = a + (i : Nat) * (-1) := by omega
    show some (PyData.int (a - (0 + i))) = _
    rw [e2]
theorem enumD_get : ∀ (l : List D) (k : Int) (i : Nat) (d : D), l[i]? = some d → (enumD k l)[i]? = some (.tuple [.int (k + i), d])
  | [], _, _, _, h => by simp at h
  | x :: l, k, 0, d, h => by
    simp at h; subst h
    simp [enumD]
  | x :: l, k, i + 1, d, h => by
    simp only [enumD, List.getElem?_cons_succ]
    rw [enumD_get l (k + 1) i d (by simpa using h)]
    have e : k + 1 + (i : Int) = k + ((i + 1 : Nat) : Int) := by omega
    rw [e]
theorem enumD_length : ∀ (l : List D) (k : Int), (enumD k l).length = l.length
  | [], _ => rfl
  | x :: l, k => by simp [enumD, enumD_length l]
theorem Runs.en {K : PySem.W.Frag} {A : Addr → Prop} {a : Addr} {xs : List V} {ds : List D} {H1 : Hp} (n : ¬ A a) (h : Rd H1 a (.lst xs)) (r : RpA A H1 xs ds) : Runs A (Ite K a) (enumD 0 ds) H1 where
  go := fun i Hc s hi => by
    have hl := r.length
    rw [enumD_length] at hi
    exact ⟨xs, xs[i]'(by omega), .inl (Rd.keep s n h), by simp⟩
  stop := fun i Hc s hi => ⟨xs, .inl (Rd.keep s n h), by have hl := r.length; rw [enumD_length] at hi; omega⟩
  yld := fun i Hc x H' B hi s tb hb ⟨T, y, e, hT, eH, f⟩ => by
    subst e eH
    have e1 := f xs (.inl (Rd.keep s n h))
    obtain ⟨d, e2, e3⟩ := r.getV e1
    refine ⟨_, enumD_get ds 0 i d e2, same_upd hT, ?_⟩
    rw [Int.zero_add]
    exact Rp.newT tb hT (by show 2 ≤ sizeLine; decide) (.cons (.int _) (.cons (Rp.keep s hb d y e3) .nil))
end
end PC

set_option Elab.async false
set_option linter.all false
/-! PC9: the readings of expressions are sound. -/
namespace PC
open PySem PySem.Spec PyProof.Rows L2
theorem PE.imp {X : Cx} {e : Expr} {t t' : TE} (h : PE X e t) (i : ∀ σ H Q, t' σ H Q → t σ H Q) : PE X e t' := ⟨fun pins s σ H Q I q => h.run pins s σ H Q I (i σ H Q q)⟩
theorem PT.imp {X : Cx} {e : Expr} {t t' : TT} (h : PT X e t) (i : ∀ σ H Q, t' σ H Q → t σ H Q) : PT X e t' := ⟨fun pins s σ H Q I q => h.run pins s σ H Q I (i σ H Q q)⟩
theorem PW.imp {X : Cx} {e : Expr} {t t' : TT} (h : PW X e t) (i : ∀ σ H Q, t' σ H Q → t σ H Q) : PW X e t' := ⟨fun wh pins s σ H Q I q => h.run wh pins s σ H Q I (i σ H Q q)⟩
theorem PA.imp {X : Cx} {e : List Expr} {t t' : TA} (h : PA X e t) (i : ∀ σ H Q, t' σ H Q → t σ H Q) : PA X e t' := ⟨fun pos pins s σ H Q I q => h.run pos pins s σ H Q I (i σ H Q q)⟩
theorem PI.imp {X : Cx} {tg e : Expr} {t t' : TI} (h : PI X tg e t) (i : ∀ σ H Q, t' σ H Q → t σ H Q) : PI X tg e t' := ⟨fun pins s σ H Q I q => h.run pins s σ H Q I (i σ H Q q)⟩
theorem PTs.imp {X : Cx} {e : List Expr} {t t' : TT} (h : PTs X e t) (i : ∀ σ H Q, t' σ H Q → t σ H Q) : PTs X e t' := ⟨fun pins s σ H Q I q => h.run pins s σ H Q I (i σ H Q q)⟩
theorem PO.imp {X : Cx} {e : Option Expr} {t t' : TO} (h : PO X e t) (i : ∀ σ H Q, t' σ H Q → t σ H Q) : PO X e t' := ⟨fun pins s σ H Q I q => h.run pins s σ H Q I (i σ H Q q)⟩
theorem ix?_some {x : Str} : ∀ {N : List Str} {k i : Nat}, ix? x N k = some i → ∃ j, i = k + j ∧ N[j]? = some x
  | [], k, i, h => by simp [ix?] at h
  | y :: r, k, i, h => by
    unfold ix? at h
    split at h
    · rename_i c
      cases h
      have : x = y := by simpa using c
      subst this
      exact ⟨0, rfl, rfl⟩
    · obtain ⟨j, e1, e2⟩ := ix?_some h
      exact ⟨j + 1, by omega, by simpa using e2⟩
theorem ix?_zero {x : Str} {N : List Str} {i : Nat} (h : ix? x N 0 = some i) : N[i]? = some x := by
  obtain ⟨j, e, q⟩ := ix?_some h
  rw [Nat.zero_add] at e
  subst e
  exact q
theorem vis_of {sc : Scope} {x : Str} (h : visB sc x = true) : Vis sc x := by
  unfold visB at h
  split at h
  · exact .inl (by assumption)
  · exact .inr (.inl (by assumption))
  · exact .inr (.inr (by assumption))
  · cases h
theorem loc_of {sc : Scope} {x : Str} (h : locB sc x = true) : Loc sc x := by
  unfold locB at h
  split at h
  · exact .inl (by assumption)
  · exact .inr (by assumption)
  · cases h
theorem gl_of {X : Cx} {sc : Scope} {x : Str} (e : X.env.scope = sc) (h : glB sc x = true) : Gl X x := by
  unfold glB at h
  split at h
  · show X.env.scope.names.lookup x = _
    rw [e]; assumption
  · cases h
theorem star_of {g : G} {n : Nat} {cm : Bool} {sc : Scope} {e : Expr} {ir : E} (h : cE g n cm sc e = some ir) (es : List Expr) (env : PySem.Env) : starEach (e :: es) env = (false, eval e env) :: starEach es env := by
  cases n with
  | zero => simp [cE] at h
  | succ n => cases e <;> first | rfl | (simp [cE] at h)
theorem anyStar {g : G} : ∀ {n : Nat} {cm : Bool} {sc : Scope} {es : List Expr} {ir : Es}, cEs g n cm sc es = some ir → ∀ (pos : Pos) (env : PySem.Env), (backTo pos (starEach es env)).any (·.1) = false
  | 0, _, _, es, _, h, _, _ => by simp [cEs] at h
  | n + 1, _, _, [], _, _, _, _ => rfl
  | n + 1, cm, sc, e :: r, ir, h, pos, env => by
    simp only [cEs, Option.bind_eq_some_iff, Option.map_eq_some_iff] at h
    obtain ⟨x, h1, y, h2, _⟩ := h
    rw [star_of h1]
    show (false || (backTo pos (starEach r env)).any (·.1)) = false
    rw [anyStar h2]; rfl
theorem evs_len {g : G} {Φ : Phi} : ∀ {n : Nat} {cm : Bool} {sc : Scope} {es : List Expr} {ir : Es} {env : Env} {l : List D}, cEs g n cm sc es = some ir → evs Φ ir env = .ok l → l.length = es.length
  | 0, _, _, es, _, _, _, h, _ => by simp [cEs] at h
  | n + 1, _, _, [], _, _, l, h, q => by
    simp only [cEs, Option.some.injEq] at h
    subst h
    simp only [evs] at q
    cases q; rfl
  | n + 1, cm, sc, e :: r, ir, env, l, h, q => by
    simp only [cEs, Option.bind_eq_some_iff, Option.map_eq_some_iff] at h
    obtain ⟨x, h1, y, h2, rfl⟩ := h
    simp only [evs] at q
    cases e1 : evE Φ x env with
    | ok d =>
      rw [e1] at q
      simp only [R.bind] at q
      cases e2 : evs Φ y env with
      | ok l2 =>
        rw [e2] at q
        cases q
        simp [evs_len h2 e2]
      | ex c => rw [e2] at q; cases q
      | st => rw [e2] at q; cases q
    | ex c => rw [e1] at q; cases q
    | st => rw [e1] at q; cases q
structure Snd (g : G) (k : Nat) (n : Nat) : Prop where
  e : ∀ cm sc e ir X p, OkX g k cm sc X p → cE g n cm sc e = some ir → PE X e (tE p ir)
  t : ∀ cm sc e ir X p, OkX g k cm sc X p → cE g n cm sc e = some ir → PT X e (tT p ir)
  an : ∀ cm sc a r pos ir X p, OkX g k cm sc X p → cAnd g n cm sc a r = some ir → PE X (.BoolOp .And (a :: r) pos) (tE p ir) ∧ PW X (.BoolOp .And (a :: r) pos) (tT p ir)
  or : ∀ cm sc a r pos ir X p, OkX g k cm sc X p → cOr g n cm sc a r = some ir → PE X (.BoolOp .Or (a :: r) pos) (tE p ir) ∧ PW X (.BoolOp .Or (a :: r) pos) (tT p ir)
  es : ∀ cm sc es ir X p, OkX g k cm sc X p → cEs g n cm sc es = some ir → PA X es (tEs p ir)
  c : ∀ cm sc os bs ir X p, OkX g k cm sc X p → cC g n cm sc os bs = some ir → lastMarks os bs = false ∧
    (∀ pos pins s σ H x v Q, Inv X pins σ H s → RelV x v → tCh p ir x σ H Q → wpAny (model X.prog X.w) X.A (compareChain pos v os (evalEach bs X.env)) (EP X pins σ Q) X.xe s) ∧
    (∀ pos pins s σ H x v Q, Inv X pins σ H s → RelV x v → tChT p ir x σ H Q → wpAny (model X.prog X.w) X.A (testChain pos v os (evalEach bs X.env)) (TP X pins σ Q) X.xe s)
  o : ∀ cm sc o ir X p, OkX g k cm sc X p → cO g n cm sc o = some ir → PO X o (tO p ir)
  f : ∀ cm sc l ir X p, OkX g k cm sc X p → cF g n cm sc l = some ir → PTs X l (tF p ir)
  i : ∀ cm sc t it ir X p, OkX g k cm sc X p → cI g n cm sc t it = some ir → PI X t it (tI p ir)
/-! ### leaves -/
section
variable {g : G} {k : Nat} {cm : Bool} {sc : Scope} {X : Cx} {p : Pm}
theorem l_name {x : Str} {pos : Pos} {ir : E} (ok : OkX g k cm sc X p) (h : cName g sc x = some ir) : PE X (.Name x pos) (tE p ir) := by
  unfold cName at h
  split at h
  · cases h
  rename_i hd
  simp only [Bool.or_eq_true, not_or, Bool.not_eq_true] at hd
  split at h
  · rename_i i hi
    split at h
    · rename_i hv
      cases h
      refine PE.imp (pe_var (i := i) (by rw [ok.hN]; exact ix?_zero hi) (by rw [ok.sc]; exact vis_of hv) hd.1 hd.2) fun σ H Q q => ?_
      obtain ⟨A, env, pre, q⟩ := q
      simp only [evE] at q
      cases e : rdS (geti env i) with
      | ok d =>
        rw [e] at q
        obtain ⟨v, e1, e2⟩ := pre.rr i (by simp [E.vars]) d e
        exact ⟨v, e1, q.here v e2⟩
      | ex c =>
        cases q2 : geti env i <;> rw [q2] at e <;> cases e
      | st => rw [e] at q; exact q.elim
    · cases h
  · split at h
    · rename_i hg
      simp only [Option.map_eq_some_iff] at h
      obtain ⟨i, h, rfl⟩ := h
      obtain ⟨t, hm⟩ := ok.lk.ci x i h
      refine PE.imp (pe_glob (v := .int i) (gl_of ok.sc hg) hm ⟨t, rfl⟩ hd.1) fun σ H Q q => ?_
      obtain ⟨A, env, pre, q⟩ := q
      exact q.here _ (.int i)
    · cases h
theorem After.aft {σ : L2.St} {H : Hp} {A : Addr → Prop} {r : R D} {Q : VK} (hr : ∀ c, r ≠ .ex c) (h : After p σ H r (kD A Q)) : Aft A H r Q := by
  cases r with
  | ok d => exact ⟨d, rfl, fun v H' s q => h H' s v q⟩
  | ex c => exact absurd rfl (hr c)
  | st => exact h.elim
theorem evOp_nx {o : Op} {a b : D} (c : Str) : evOp o a b ≠ .ex c := by
  unfold evOp
  split <;> (try split) <;> (intro h; cases h)
theorem getAt_nx {l : List D} {i : Int} (c : Str) : getAt l i ≠ .ex c := by
  unfold getAt
  split <;> (intro h; cases h)
theorem evIx_nx {a b : D} (c : Str) : evIx a b ≠ .ex c := by
  unfold evIx
  split
  · exact getAt_nx c
  · exact getAt_nx c
  · split
    · split <;> (intro h; cases h)
    · intro h; cases h
  · split
    · split <;> (intro h; cases h)
    · intro h; cases h
  · intro h; cases h
theorem evSl_nx {a : D} {i j : Option Int} (c : Str) : evSl a i j ≠ .ex c := by
  unfold evSl
  split <;> (try split) <;> (intro h; cases h)
theorem evBi_nx {b : Bi} {l : List D} (c : Str) : evBi b l ≠ .ex c := by
  unfold evBi
  split <;> (repeat' split) <;> (intro h; cases h)
theorem evMt_nx {m : Mt} {a b : D} (c : Str) : evMt m a b ≠ .ex c := by
  unfold evMt
  split <;> (repeat' split) <;> (intro h; cases h)
theorem ltD_nx {a b : D} (c : Str) : ltD a b ≠ .ex c := by
  unfold ltD
  split <;> (repeat' split) <;> (intro h; cases h)
theorem notR_nx {r : R Bool} (h : ∀ c, r ≠ .ex c) (c : Str) : notR r ≠ .ex c := by
  cases r with
  | ok b => intro h; cases h
  | ex d => exact absurd rfl (h d)
  | st => intro h; cases h
theorem eqD_nx {a b : D} (c : Str) : eqD a b ≠ .ex c := by
  unfold eqD
  split <;> (intro h; cases h)
theorem inD_nx {a b : D} (c : Str) : inD a b ≠ .ex c := by
  unfold inD
  split <;> (repeat' split) <;> (intro h; cases h)
theorem evCm_nx {o : Cm} {a b : D} (c : Str) : evCm o a b ≠ .ex c := by
  cases o with
  | eq => exact eqD_nx c
  | ne => exact notR_nx eqD_nx c
  | lt => exact ltD_nx c
  | le => exact notR_nx ltD_nx c
  | gt => exact ltD_nx c
  | ge => exact notR_nx ltD_nx c
  | in_ => exact inD_nx c
  | nin => exact notR_nx inD_nx c
/-- one argument -/
theorem bi1 {b : Bi} {x : E} {σ : L2.St} {H : Hp} {Q : VK} (q : tE p (.bi b (.cons x .nil)) σ H Q) : tE p x σ H fun v H1 => ∃ A a, Trk A H1 ∧ Rp A H1 v a ∧ Aft A H1 (evBi b [a]) Q := by
  obtain ⟨A, env, pre, q⟩ := q
  refine ⟨A, env, pre.sub (fun i hi => by simpa [E.vars, Es.vars] using hi), ?_⟩
  simp only [evE, evs] at q
  have q1 := q.bind.bind
  refine q1.mono fun d H1 s q2 v hv => ⟨A, d, pre.tr.same s, hv, After.aft (p := p) (σ := σ) evBi_nx (After.here (a := [d]) q2)⟩
theorem bi2 {b : Bi} {x y : E} {σ : L2.St} {H : Hp} {Q : VK} (q : tE p (.bi b (.cons x (.cons y .nil))) σ H Q) : tE p x σ H fun v H1 => tE p y σ H1 fun u H2 => ∃ A a c, Trk A H2 ∧ Rp A H2 v a ∧ Rp A H2 u c ∧ Aft A H2 (evBi b [a, c]) Q := by
  obtain ⟨A, env, pre, q⟩ := q
  have pre' : Pre p (x.vars ++ y.vars) A env σ H := pre.sub fun i hi => by simpa [E.vars, Es.vars] using hi
  refine ⟨A, env, pre'.left, ?_⟩
  simp only [evE, evs] at q
  have q1 := q.bind.bind
  refine q1.mono fun d H1 s q2 v hv => ⟨A, env, (pre'.same s).right, ?_⟩
  have q3 := q2.bind.bind
  exact q3.mono fun e H2 s2 q4 u hu => ⟨A, d, e, pre.tr.same (s.trans s2), Rp.same s2 _ _ hv, hu, After.aft (p := p) (σ := σ) evBi_nx (After.here (a := [d, e]) (After.here (a := [e]) q4))⟩
end
theorem blt_of {g : G} {k : Nat} {cm : Bool} {sc : Scope} {X : Cx} {p : Pm} (ok : OkX g k cm sc X p) {x : Str} (h : x ∈ biNames) : X.mg x = none := ok.lk.bi x h
section
variable {g : G} {k n : Nat} {cm : Bool} {sc : Scope} {X : Cx} {p : Pm}
theorem Pre.upd' {S : List Nat} {A : Addr → Prop} {env : Env} {σ : L2.St} {H : Hp} (h : Pre p S A env σ H) : Trk A H := h.tr
theorem l_not {a : Expr} {x : E} {pos : Pos} (h : PE X a (tE p x)) : PE X (.UnaryOp .Not a pos) (tE p (.not x)) := by
  refine PE.imp (pe_not h) fun σ H Q q => ?_
  obtain ⟨A, env, pre, q⟩ := q
  refine ⟨A, env, pre, ?_⟩
  simp only [evE] at q
  cases e : evE p.Φ x env with
  | ok d =>
    rw [e] at q
    cases d with
    | bool b =>
      intro H' s v hv
      cases hv
      exact ⟨b, rfl, q H' s _ (.bl _)⟩
    | _ => exact False.elim q
  | ex c => rw [e] at q; exact q
  | st => rw [e] at q; exact q
theorem l_neg {a : Expr} {x : E} {pos : Pos} (h : PE X a (tE p x)) : PE X (.UnaryOp .USub a pos) (tE p (.bi .neg (.cons x .nil))) := by
  refine PE.imp (pe_un un_neg h) fun σ H Q q => ?_
  obtain ⟨A, env, pre, q⟩ := bi1 q
  refine ⟨A, env, pre, q.mono fun d H1 s q2 v hv => ?_⟩
  obtain ⟨A2, a2, tr, ha, hq⟩ := q2 v hv
  cases ha with
  | int i => exact ⟨i, rfl, hq.of _ _ (Same.refl _) (.int _)⟩
  | _ => exact hq.st
theorem tE.mono {x : E} {σ : L2.St} {H : Hp} {Q Q' : VK} (h : tE p x σ H Q) (m : ∀ v H', Same H H' → Q v H' → Q' v H') : tE p x σ H Q' := by
  obtain ⟨A, env, pre, q⟩ := h
  exact ⟨A, env, pre, q.mono fun d H' s q v hv => m v H' s (q v hv)⟩
theorem l_op {a b : Expr} {o : Operator} {o' : Op} {x y : E} {pos : Pos} (ho : opOf o = some o') (ha : PE X a (tE p x)) (hb : PE X b (tE p y)) : PE X (.BinOp a o b pos) (tE p (.op o' x y)) := by
  rw [opOf_eq ho]
  refine PE.imp (pe_op (op_D o') ha hb) fun σ H Q q => ?_
  obtain ⟨A, env, pre, q⟩ := q
  simp only [evE] at q
  refine ⟨A, env, pre.left, q.bind.mono fun d H1 s q2 v hv => ⟨A, env, (pre.same s).right, q2.bind.mono fun e H2 s2 q3 u hu => ⟨A, d, e, pre.tr.same (s.trans s2), Rp.same s2 _ _ hv, hu, After.aft (p := p) (σ := σ) evOp_nx q3⟩⟩⟩
theorem tT_tE {p : Pm} {x : E} {σ : L2.St} {H : Hp} {Q : Bool → Hp → Prop} (h : tT p x σ H Q) : tE p x σ H fun v H' => ∃ k, v = .bl k ∧ Q k H' := by
  obtain ⟨A, env, pre, q⟩ := h
  refine ⟨A, env, pre, q.toB.mono fun d H' s q v hv => ?_⟩
  obtain ⟨b, rfl, q⟩ := q
  cases hv
  exact ⟨b, rfl, q⟩
theorem bothC {a b : Expr} {op : CmpOp} {r : R2} {ta tb : TE} {ir : E} {pos : Pos} (ho : OpR X (compareOp op) r) (ha : PE X a ta) (hb : PE X b tb) (hm : behindInMarks op b = false) (i : ∀ σ H Q, tE p ir σ H Q → tOp r ta tb σ H Q) :
    PE X (.Compare a [op] [b] pos) (tE p ir) ∧ PT X (.Compare a [op] [b] pos) (tT p ir) := ⟨PE.imp (pe_cmpR ho ha hb hm) i, PT.imp (pt_cmpR ho ha hb hm) fun σ H Q q => i _ _ _ (tT_tE q)⟩
theorem l_isN {a : Expr} {x : E} {j : Nat} {pos pos' : Pos} (ha : PE X a (tE p x)) : PE X (.Compare a [.Is] [.Constant .none j pos'] pos) (tE p (.bi .isNone (.cons x .nil))) ∧ PT X (.Compare a [.Is] [.Constant .none j pos'] pos) (tT p (.bi .isNone (.cons x .nil))) := by
  refine bothC op_isN ha pe_non (nomark _) fun σ H Q q => (bi1 q).mono fun v H' s q => ?_
  obtain ⟨A, d, tr, hd, q⟩ := q
  refine ⟨rfl, ?_⟩
  cases hd <;> exact q.of _ _ (Same.refl _) (.bl _)
theorem l_notN {a : Expr} {x : E} {j : Nat} {pos pos' : Pos} (ha : PE X a (tE p x)) : PE X (.Compare a [.IsNot] [.Constant .none j pos'] pos) (tE p (.bi .notNone (.cons x .nil))) ∧ PT X (.Compare a [.IsNot] [.Constant .none j pos'] pos) (tT p (.bi .notNone (.cons x .nil))) := by
  refine bothC op_notN ha pe_non (nomark _) fun σ H Q q => (bi1 q).mono fun v H' s q => ?_
  obtain ⟨A, d, tr, hd, q⟩ := q
  refine ⟨rfl, ?_⟩
  cases hd <;> exact q.of _ _ (Same.refl _) (.bl _)
theorem l_cst {a : Expr} {x : E} {ops : List CmpOp} {cs : List Expr} {neg : Bool} {l : List D} {pos : Pos} (ok : OkX g k cm sc X p) (h : cstOf g sc ops cs = some (neg, l)) (ha : PE X a (tE p x)) :
    PE X (.Compare a ops cs pos) (tE p (.bi (if neg then .ninC l else .inC l) (.cons x .nil))) ∧ PT X (.Compare a ops cs pos) (tT p (.bi (if neg then .ninC l else .inC l) (.cons x .nil))) := by
  unfold cstOf at h
  split at h
  · split at h
    · rename_i c
      simp only [Bool.and_eq_true, Bool.not_eq_true'] at c
      simp only [Option.map_eq_some_iff, Prod.mk.injEq] at h
      obtain ⟨l', hl, rfl, rfl⟩ := h
      obtain ⟨t, hm, hd⟩ := ok.lk.ct _ _ hl
      refine bothC (r := fun v u H Q => u = .ref t ∧ ∃ A d, Trk A H ∧ Rp A H v d ∧ Aft A H (evBi (.inC l') [d]) Q) ?_ ha (pe_glob (v := .ref t) (gl_of ok.sc c.1) hm rfl c.2) (by rfl) fun σ H Q q => (bi1 q).mono fun v H' s q => ⟨rfl, q⟩
      intro pins s σ H x y v u Q I rx ry q
      obtain ⟨rfl, A, d, tr, hr, e, he, q⟩ := q
      simp only [evBi] at he
      split at he
      · rename_i c
        cases he
        rw [Bool.and_eq_true] at c
        obtain ⟨as, r1⟩ := Dp.reads I d x v (Rp.dp _ _ hr) rx
        obtain ⟨bs, r2⟩ := Dp.reads I (.tuple l') _ u (hd H) ry
        exact SeqAt.in_tuple_reads r2 r1 (SeqAt.canLay_of_shaped c.2) (SeqAt.canLay_of_shaped c.1) (room_in_shaped c.1 (by have := ok.un; omega)) ⟨.bl _, H, I, rfl, q _ _ (Same.refl H) (.bl _)⟩
      · cases he
    · cases h
  · split at h
    · rename_i c
      simp only [Bool.and_eq_true, Bool.not_eq_true'] at c
      simp only [Option.map_eq_some_iff, Prod.mk.injEq] at h
      obtain ⟨l', hl, rfl, rfl⟩ := h
      obtain ⟨t, hm, hd⟩ := ok.lk.ct _ _ hl
      refine bothC (r := fun v u H Q => u = .ref t ∧ ∃ A d, Trk A H ∧ Rp A H v d ∧ Aft A H (evBi (.ninC l') [d]) Q) ?_ ha (pe_glob (v := .ref t) (gl_of ok.sc c.1) hm rfl c.2) (by rfl) fun σ H Q q => (bi1 q).mono fun v H' s q => ⟨rfl, q⟩
      intro pins s σ H x y v u Q I rx ry q
      obtain ⟨rfl, A, d, tr, hr, e, he, q⟩ := q
      simp only [evBi] at he
      split at he
      · rename_i c
        cases he
        rw [Bool.and_eq_true] at c
        obtain ⟨as, r1⟩ := Dp.reads I d x v (Rp.dp _ _ hr) rx
        obtain ⟨bs, r2⟩ := Dp.reads I (.tuple l') _ u (hd H) ry
        exact SeqAt.notIn_tuple_reads r2 r1 (SeqAt.canLay_of_shaped c.2) (SeqAt.canLay_of_shaped c.1) (room_in_shaped c.1 (by have := ok.un; omega)) ⟨.bl _, H, I, rfl, q _ _ (Same.refl H) (.bl _)⟩
      · cases he
    · cases h
  · cases h
theorem l_tup {es : List Expr} {x : Es} {j : Nat} {pos : Pos} (c : es.length ≤ 1000) (hx : cEs g n cm sc es = some x) (ha : PA X es (tEs p x)) : PE X (.Tuple es j pos) (tE p (.tup x)) := by
  refine PE.imp (pe_tup ha) fun σ H Q q => ?_
  obtain ⟨A, env, pre, q⟩ := q
  refine ⟨A, env, pre, ?_⟩
  simp only [evE] at q
  cases e : evs p.Φ x env with
  | ok l =>
    rw [e] at q
    have hl := evs_len hx e
    intro H' s vs hvs
    have hz : vs.length ≤ sizeLine := by rw [hvs.length, hl, sizeLine_eq]; omega
    exact ⟨hz, fun t ht => q (upd H' t (.tup vs)) (s.trans (same_upd ht)) _ (Rp.newT (pre.tr.same s) ht hz hvs)⟩
  | ex c => rw [e] at q; exact q
  | st => rw [e] at q; exact q
theorem l_lst {es : List Expr} {x : Es} {pos : Pos} (c : es.length ≤ 1000) (hx : cEs g n cm sc es = some x) (ha : PA X es (tEs p x)) : PE X (.List es pos) (tE p (.lst x)) := by
  refine PE.imp (pe_lst ha) fun σ H Q q => ?_
  obtain ⟨A, env, pre, q⟩ := q
  refine ⟨A, env, pre, ?_⟩
  simp only [evE] at q
  cases e : evs p.Φ x env with
  | ok l =>
    rw [e] at q
    have hl := evs_len hx e
    intro H' s vs hvs
    have hz : vs.length ≤ sizeLine := by rw [hvs.length, hl, sizeLine_eq]; omega
    exact ⟨hz, fun t ht => q (upd H' t (.lst vs)) (s.trans (same_upd ht)) _ (Rp.newL (pre.tr.same s) ht hz hvs)⟩
  | ex c => rw [e] at q; exact q
  | st => rw [e] at q; exact q
theorem l_rev {a : Expr} {x : E} {j : Nat} {p1 p2 p3 pos : Pos} (ha : PE X a (tE p x)) : PE X (.Subscript a (.Slice none none (some (.UnaryOp .USub (.Constant (.int 1) j p1) p2)) p3) pos) (tE p (.rev x)) := by
  refine PE.imp (pe_rev ha) fun σ H Q q => ?_
  obtain ⟨A, env, pre, q⟩ := q
  refine ⟨A, env, pre, ?_⟩
  simp only [evE] at q
  refine q.bind.mono fun d H' s q2 v hv => ⟨A, d, pre.tr.same s, hv, ?_⟩
  cases d with
  | list l => exact After.aft (p := p) (σ := σ) (fun c h => nomatch h) q2
  | tuple l => exact After.aft (p := p) (σ := σ) (fun c h => nomatch h) q2
  | _ => exact False.elim q2
theorem l_sl {a : Expr} {lo hi : Option Expr} {x : E} {l h : Oe} {p2 pos : Pos} (ha : PE X a (tE p x)) (hl : PO X lo (tO p l)) (hh : PO X hi (tO p h)) : PE X (.Subscript a (.Slice lo hi none p2) pos) (tE p (.sl x l h)) := by
  refine PE.imp (pe_slice sl_D ha hl hh) fun σ H Q q => ?_
  obtain ⟨A, env, pre, q⟩ := q
  simp only [evE] at q
  have pre2 : Pre p (l.vars ++ h.vars) A env σ H := pre.right
  refine ⟨A, env, pre.left, q.bind.mono fun d H1 s q2 v hv => ⟨A, env, (pre2.same s).left, q2.bind.mono fun i H2 s2 q3 => ⟨A, env, (pre2.same (s.trans s2)).right, q3.bind.mono fun j H3 s3 q4 => ⟨A, d, pre.tr.same (s.trans (s2.trans s3)), Rp.same (s2.trans s3) _ _ hv, After.aft (p := p) (σ := σ) evSl_nx q4⟩⟩⟩⟩
theorem l_ix {a b : Expr} {x y : E} {pos : Pos} (ha : PE X a (tE p x)) (hb : PE X b (tE p y)) (hs : ∀ lower upper step pos, b = .Slice lower upper step pos → False) : PE X (.Subscript a b pos) (tE p (.ix x y)) := by
  have hp : PlainIx b := by
    cases b <;> first | exact fun _ _ => rfl | exact absurd rfl (fun e => hs _ _ _ _ e)
  refine PE.imp (pe_ix ix_D ha hb hp) fun σ H Q q => ?_
  obtain ⟨A, env, pre, q⟩ := q
  simp only [evE] at q
  refine ⟨A, env, pre.left, q.bind.mono fun d H1 s q2 v hv => ⟨A, env, (pre.same s).right, q2.bind.mono fun e H2 s2 q3 u hu => ⟨A, d, e, pre.tr.same (s.trans s2), Rp.same s2 _ _ hv, hu, After.aft (p := p) (σ := σ) evIx_nx q3⟩⟩⟩
/-- a call of a def -/
theorem l_call {f : Str} {m : Nat} {e : Expr} {es : List Expr} {x : Es} {p0 pos : Pos} (ok : OkX g k true sc X p) (hg : glB sc f = true) (hd : (f == ("__debug__" : Str)) = false) (hf : g.fns.lookup f = some m) (hm : (e :: es).length = m)
    (hx : cEs g n cm sc (e :: es) = some x) (ha : PA X (e :: es) (tEs p x)) : PE X (.Call (.Name f p0) (e :: es) [] pos) (tE p (.call f x)) := by
  obtain ⟨fa, fd, ps, h1, h2, h3, h4, F⟩ := ok.lk.fn f m hf
  have hs : starEach (e :: es) X.env = (false, eval e X.env) :: starEach es X.env ∧ (backTo pos (starEach es X.env)).any (·.1) = false := by
    cases n with
    | zero => simp [cEs] at hx
    | succ n =>
      simp only [cEs, Option.bind_eq_some_iff, Option.map_eq_some_iff] at hx
      obtain ⟨y, g1, z, g2, _⟩ := hx
      exact ⟨star_of g1 es X.env, anyStar g2 pos X.env⟩
  refine PE.imp (pe_callS F (ok.room rfl) (gl_of ok.sc hg) h1 h2 h3 (fun σ => passAt ok.tk σ) ha hd hs.1 hs.2) fun σ H Q q => ?_
  obtain ⟨A, env, pre, q⟩ := q
  refine ⟨A, env, pre, ?_⟩
  simp only [evE] at q
  cases e1 : evs p.Φ x env with
  | ok l =>
    rw [e1] at q
    have hl := evs_len hx e1
    intro H' s vs hvs
    refine ⟨by rw [hvs.length, hl, hm], A, l, pre.tr.same s, hvs, ?_⟩
    have q : After p σ H (p.Φ f l) (kD A Q) := q
    cases e2 : p.Φ f l with
    | ok d => rw [e2] at q; exact fun v H2 s2 hv => q H2 (s.trans s2) v hv
    | ex c => rw [e2] at q; exact fun H2 s2 => q H2 (s.trans s2)
    | st => rw [e2] at q; exact q
  | ex c => rw [e1] at q; exact q
  | st => rw [e1] at q; exact q
theorem l_lenSet {a : Expr} {x : E} {p1 p2 q1 pos : Pos} (ok : OkX g k true sc X p) (hg : glB sc "len" = true) (hg2 : glB sc "set" = true) (hx : cE g n cm sc a = some x) (ha : PE X a (tE p x)) :
    PE X (.Call (.Name "len" p1) [.Call (.Name "set" p2) [a] [] q1] [] pos) (tE p (.bi .lenSet (.cons x .nil))) :=
  PE.imp (pe_lenSetD ok.cal (gl_of ok.sc hg) (blt_of ok (by decide)) (gl_of ok.sc hg2) (blt_of ok (by decide)) ha (star_of hx [] X.env)) fun σ H Q q => bi1 q
/-- a built-in of one argument -/
theorem l_bi1 {f : Str} {b : Bi} {id : String} {a : Expr} {x : E} {p0 pos : Pos} (ok : OkX g k cm sc X p) (hg : glB sc f = true) (hf : f ∈ biNames) (hv : bootBuiltins f = some (.builtin id)) (hn : f ≠ "__name__") (hd : (f == ("__debug__" : Str)) = false)
    (hc : CallR X (.builtin id) (rB1 b)) (hx : cE g n cm sc a = some x) (ha : PE X a (tE p x)) : PE X (.Call (.Name f p0) [a] [] pos) (tE p (.bi b (.cons x .nil))) :=
  PE.imp (pe_callB hc (gl_of ok.sc hg) (blt_of ok hf) hv (pa_cons ha pa_nil (star_of hx [] X.env)) hn hd (star_of hx [] X.env) rfl) fun σ H Q q => (bi1 q).mono fun v H' s ⟨A, d, tr, hr, q⟩ => ⟨A, d, v, rfl, tr, hr, q⟩
theorem l_ty1 {f : Str} {b : Bi} {T : String} {a : Expr} {x : E} {p0 pos : Pos} (ok : OkX g k cm sc X p) (hg : glB sc f = true) (hf : f ∈ biNames) (hv : bootBuiltins f = some (.type T)) (hn : f ≠ "__name__") (hd : (f == ("__debug__" : Str)) = false)
    (hc : CallR X (.type T) (rB1 b)) (hx : cE g n cm sc a = some x) (ha : PE X a (tE p x)) : PE X (.Call (.Name f p0) [a] [] pos) (tE p (.bi b (.cons x .nil))) :=
  PE.imp (pe_callTy hc (gl_of ok.sc hg) (blt_of ok hf) hv (pa_cons ha pa_nil (star_of hx [] X.env)) hn hd (star_of hx [] X.env) rfl) fun σ H Q q => (bi1 q).mono fun v H' s ⟨A, d, tr, hr, q⟩ => ⟨A, d, v, rfl, tr, hr, q⟩
theorem l_bi2 {f : Str} {b : Bi} {id : String} {a c : Expr} {x y : E} {p0 pos : Pos} (ok : OkX g k cm sc X p) (hg : glB sc f = true) (hf : f ∈ biNames) (hv : bootBuiltins f = some (.builtin id)) (hn : f ≠ "__name__") (hd : (f == ("__debug__" : Str)) = false)
    (hc : CallR X (.builtin id) (rB2 b)) (hx : cE g n cm sc a = some x) (hy : cE g n cm sc c = some y) (ha : PE X a (tE p x)) (hb : PE X c (tE p y)) : PE X (.Call (.Name f p0) [a, c] [] pos) (tE p (.bi b (.cons x (.cons y .nil)))) := by
  refine PE.imp (pe_callB hc (gl_of ok.sc hg) (blt_of ok hf) hv (pa_cons ha (pa_cons hb pa_nil (star_of hy [] X.env)) (star_of hx [c] X.env)) hn hd (star_of hx [c] X.env) ?_) fun σ H Q q => (bi2 q).mono fun v H' s q2 => q2.mono fun u H2 s2 ⟨A, d, e, tr, hr, he, q⟩ => ⟨A, d, e, v, u, rfl, tr, hr, he, q⟩
  rw [star_of hy [] X.env]; rfl
end
/-! ### targets -/
def gNs : List Nat → TGs
  | [] => gNil
  | i :: is => gCons (gName i) (gNs is)
def gT (K : PySem.W.Frag) : T → TG
  | .n i => gName i
  | .t is => gTup K is.length (gNs is)
def StOk (X : Cx) (sc : Scope) : Prop := ∀ x, locB sc x = true → Loc X.env.scope x ∧ (X.fn x = true ∨ X.env.scope.names.lookup x = some .local)
theorem cT_name {g : G} {X : Cx} {sc : Scope} {x : Str} {i : Nat} {pos : Pos} (hN : X.N = g.N) (nd : g.N.Nodup) (st : StOk X sc) (h : ix? x g.N 0 = some i) (hl : locB sc x = true) : PG X (.Name x pos) (gName i) := by
  obtain ⟨h1, h2⟩ := st x hl
  exact pg_name (by rw [hN]; exact nd) (by rw [hN]; exact ix?_zero h) h1 h2
theorem cT_names {g : G} {X : Cx} {sc : Scope} (hN : X.N = g.N) (nd : g.N.Nodup) (st : StOk X sc) : ∀ {es : List Expr} {is : List Nat}, (es.mapM fun (e : PySem.Expr) => match e with
    | .Name x _ => match ix? x g.N 0 with
      | some i => if locB sc x then some i else none
      | none => none
    | _ => none) = some is → PGs X es (gNs is) ∧ es.length = is.length ∧ (assignEach es X.env).length = es.length ∧ (assignEach es X.env).findIdx? (·.1) = none
  | [], is, h => by
    simp at h; subst h
    exact ⟨pgs_nil, rfl, rfl, rfl⟩
  | e :: es, is, h => by
    simp only [List.mapM_cons, Option.bind_eq_bind, Option.bind_eq_some_iff, Option.pure_def, Option.some.injEq] at h
    obtain ⟨i, h1, is', h2, rfl⟩ := h
    obtain ⟨g1, g2, g3, g4⟩ := cT_names hN nd st h2
    split at h1
    · split at h1
      · split at h1
        · rename_i hi hl
          cases h1
          exact ⟨pgs_cons (cT_name hN nd st hi hl) g1, by simp [g2], by simp [assignEach, g3], by simp [assignEach, List.findIdx?_cons, g4]⟩
        · cases h1
      · cases h1
    · cases h1
theorem cT_ok {g : G} {X : Cx} {sc : Scope} {t : Expr} {tt : T} (hN : X.N = g.N) (nd : g.N.Nodup) (hc : X.calm = true ∨ ∃ i, tt = .n i) (st : StOk X sc) (h : cT g sc t = some tt) : PG X t (gT X.K tt) := by
  unfold cT at h
  split at h
  · split at h
    · split at h
      · rename_i hi hl
        cases h
        exact cT_name hN nd st hi hl
      · cases h
    · cases h
  · simp only [Option.map_eq_some_iff] at h
    obtain ⟨is, h, rfl⟩ := h
    obtain ⟨g1, g2, g3, g4⟩ := cT_names hN nd st h
    rcases hc with hc | ⟨i, e⟩
    · rw [show gT X.K (.t is) = gTup X.K is.length (gNs is) from rfl, ← g2]
      exact pg_tup hc g1 g3 g4
    · cases e
  · cases h
theorem ix?_lt {x : Str} {N : List Str} {i : Nat} (h : ix? x N 0 = some i) : i < N.length := (List.getElem?_eq_some_iff.mp (ix?_zero h)).1
theorem cT_lts {g : G} {sc : Scope} : ∀ {es : List Expr} {is : List Nat}, (es.mapM fun (e : PySem.Expr) => match e with
    | .Name x _ => match ix? x g.N 0 with
      | some i => if locB sc x then some i else none
      | none => none
    | _ => none) = some is → ∀ i ∈ is, i < g.N.length
  | [], is, h => by
    simp at h; subst h
    intro j hj; cases hj
  | e :: es, is, h => by
    simp only [List.mapM_cons, Option.bind_eq_bind, Option.bind_eq_some_iff, Option.pure_def, Option.some.injEq] at h
    obtain ⟨i, h1, is', h2, rfl⟩ := h
    intro j hj
    rcases List.mem_cons.mp hj with rfl | hj
    · split at h1
      · split at h1
        · split at h1
          · rename_i hi hl
            cases h1
            exact ix?_lt hi
          · cases h1
        · cases h1
      · cases h1
    · exact cT_lts h2 j hj
theorem cT_lt {g : G} {sc : Scope} {t : Expr} {tt : T} (h : cT g sc t = some tt) : ∀ i ∈ tt.ids, i < g.N.length := by
  unfold cT at h
  split at h
  · split at h
    · split at h
      · rename_i hi hl
        cases h
        intro j hj
        simp [T.ids] at hj
        subst hj
        exact ix?_lt hi
      · cases h
    · cases h
  · simp only [Option.map_eq_some_iff] at h
    obtain ⟨is, h, rfl⟩ := h
    exact cT_lts h
  · cases h
theorem geti_out : ∀ {env : Env} {i : Nat}, ¬ i < env.length → geti env i = .u
  | [], _, _ => rfl
  | s :: r, 0, h => by simp at h
  | s :: r, i + 1, h => geti_out (env := r) (by simpa using h)
theorem setsAll_len : ∀ {is : List Nat} {ds : List D} {env env1 : Env}, setsAll env is ds = some env1 → ds.length = is.length
  | [], [], _, _, _ => rfl
  | i :: is, d :: ds, env, _, h => by
    have h : setsAll (sets env i (.f d)) is ds = some _ := h
    simp [setsAll_len h]
  | [], _ :: _, _, _, h => by simp [setsAll] at h
  | _ :: _, [], _, _, h => by simp [setsAll] at h
theorem geti_sets : ∀ (env : Env) (i j : Nat) (x : Sl), geti (sets env i x) j = if i = j ∧ i < env.length then x else geti env j
  | [], i, j, x => by simp [sets, geti]
  | s :: r, 0, 0, x => by simp [sets, geti]
  | s :: r, 0, j + 1, x => by simp [sets, geti]
  | s :: r, i + 1, 0, x => by simp [sets, geti]
  | s :: r, i + 1, j + 1, x => by
    simp only [sets, geti, geti_sets r i j x, List.length_cons, Nat.add_right_cancel_iff, Nat.add_lt_add_iff_right]
theorem sets_length : ∀ (env : Env) (i : Nat) (x : Sl), (sets env i x).length = env.length
  | [], _, _ => rfl
  | _ :: _, 0, _ => rfl
  | _ :: r, i + 1, x => by simp [sets, sets_length r i x]
/-- a store of a value that is shared -/
theorem store_f {S : List Nat} {sx : Option (Nat × Str × Addr)} {A : Addr → Prop} {env : Env} {σ : L2.St} {H : Hp} {i : Nat} {v : V} {d : D} (hi : i < σ.length) (r : Rp A H v d) (h : RR S A env σ H) (hx : XS sx env σ) : RR S A (sets env i (.f d)) (σ.set i (some v)) H ∧ XS sx (sets env i (.f d)) (σ.set i (some v)) := by
  constructor
  · intro j hj e he
    rw [geti_sets] at he
    by_cases c : i = j
    · subst c
      by_cases c2 : i < env.length
      · simp only [c2, and_self, if_true, rdS] at he
        cases he
        exact ⟨v, by rw [List.getElem?_set_self hi], r⟩
      · simp only [c2, and_false, if_false] at he
        rw [geti_out c2] at he; cases he
    · simp only [c, false_and, if_false] at he
      rw [List.getElem?_set_ne c]
      exact h j hj e he
  · intro j c he
    rw [geti_sets] at he
    by_cases c1 : i = j
    · subst c1
      by_cases c2 : i < env.length
      · simp [c2] at he
      · simp only [c2, and_false, if_false] at he
        rw [geti_out c2] at he; cases he
    · simp only [c1, false_and, if_false] at he
      rw [List.getElem?_set_ne c1]
      exact hx j c he
theorem gNs_ok {S : List Nat} {sx : Option (Nat × Str × Addr)} {A : Addr → Prop} {H : Hp} : ∀ {is : List Nat} {ds : List D} {vs : List V} {env env1 : Env} {σ : L2.St}, setsAll env is ds = some env1 → (∀ i ∈ is, i < σ.length) → RpA A H vs ds → RR S A env σ H → XS sx env σ →
    gNs is vs σ H fun σ2 H2 => H2 = H ∧ σ2.length = σ.length ∧ RR S A env1 σ2 H ∧ XS sx env1 σ2 ∧ ∀ j, j ∉ is → σ2[j]? = σ[j]?
  | [], [], _, env, env1, σ, h, _, .nil, r, x => by
    cases h
    exact ⟨rfl, rfl, rfl, r, x, fun _ _ => rfl⟩
  | i :: is, d :: ds, _, env, env1, σ, h, hi, .cons (v := v) hv hvs, r, x => by
    have h : setsAll (sets env i (.f d)) is ds = some env1 := h
    have hi0 := hi i List.mem_cons_self
    obtain ⟨r2, x2⟩ := store_f hi0 hv r x
    refine ⟨v, _, rfl, ?_⟩
    have := gNs_ok (σ := σ.set i (some v)) h (fun j hj => by rw [List.length_set]; exact hi j (List.mem_cons_of_mem _ hj)) hvs r2 x2
    refine gNs_mono is this fun σ2 H2 ⟨e1, e2, e3, e4, e5⟩ => ⟨e1, by rw [e2, List.length_set], e3, e4, fun j hj => ?_⟩
    rw [e5 j (fun q => hj (List.mem_cons_of_mem _ q)), List.getElem?_set_ne (fun q => hj (by rw [q]; exact List.mem_cons_self))]
  | [], _ :: _, _, _, _, _, h, _, _, _, _ => by simp [setsAll] at h
  | _ :: _, [], _, _, _, _, h, _, _, _, _ => by simp [setsAll] at h
where
  gNs_mono : ∀ (is : List Nat) {vs : List V} {σ : L2.St} {H : Hp} {Q Q' : L2.St → Hp → Prop}, gNs is vs σ H Q → (∀ σ2 H2, Q σ2 H2 → Q' σ2 H2) → gNs is vs σ H Q'
    | [], _, _, _, _, _, ⟨e, q⟩, m => ⟨e, m _ _ q⟩
    | i :: is, _, _, _, _, _, ⟨v, r, e, q⟩, m => ⟨v, r, e, gNs_mono is q m⟩
theorem gT_ok {K : PySem.W.Frag} {S : List Nat} {sx : Option (Nat × Str × Addr)} {A : Addr → Prop} {H : Hp} {tt : T} {d : D} {v : V} {env env1 : Env} {σ : L2.St} (h : asgT tt d env = some env1) (hi : ∀ i ∈ tt.ids, i < σ.length) (hv : Rp A H v d) (r : RR S A env σ H) (x : XS sx env σ) :
    gT K tt v σ H fun σ2 H2 => H2 = H ∧ σ2.length = σ.length ∧ RR S A env1 σ2 H ∧ XS sx env1 σ2 ∧ ∀ j, j ∉ tt.ids → σ2[j]? = σ[j]? := by
  cases tt with
  | n i =>
    cases h
    obtain ⟨r2, x2⟩ := store_f (hi i (by simp [T.ids])) hv r x
    exact ⟨rfl, List.length_set, r2, x2, fun j hj => List.getElem?_set_ne fun q => hj (by simp [T.ids, q])⟩
  | t is =>
    cases hv with
    | @tup a xs ds n ht z ra =>
      have h : setsAll env is ds = some env1 := h
      have hl : xs.length = is.length := by
        rw [ra.length]
        exact setsAll_len h
      exact ⟨a, xs, rfl, .of ht, hl, gNs_ok h hi ra r x⟩
    | _ => cases h
theorem gT_mono {K : PySem.W.Frag} {tt : T} {v : V} {σ : L2.St} {H : Hp} {Q Q' : L2.St → Hp → Prop} (h : gT K tt v σ H Q) (m : ∀ σ2 H2, Q σ2 H2 → Q' σ2 H2) : gT K tt v σ H Q' := by
  cases tt with
  | n i => exact m _ _ h
  | t is =>
    obtain ⟨a, xs, e1, e2, e3, q⟩ := h
    exact ⟨a, xs, e1, e2, e3, gNs_ok.gNs_mono is q m⟩
/-! ### blocks -/
theorem getElem?_wipe {σ : L2.St} : ∀ {vs : List Nat} {j : Nat}, j ∈ vs → j < σ.length → (wipe σ vs)[j]? = some none
  | [], _, h, _ => by cases h
  | v :: vs, j, h, hl => by
    unfold wipe
    by_cases c : v = j
    · subst c
      rw [List.getElem?_set_self (by rw [wipe_length]; exact hl)]
    · rw [List.getElem?_set_ne c]
      exact getElem?_wipe ((List.mem_cons.mp h).resolve_left (fun e => c e.symm)) hl
theorem wipe_eq {σ σ2 : L2.St} {vs : List Nat} (hl : σ2.length = σ.length) (h : ∀ j, j ∉ vs → σ2[j]? = σ[j]?) : wipe σ2 vs = wipe σ vs := by
  apply List.ext_getElem?
  intro j
  by_cases c : j ∈ vs
  · by_cases c2 : j < σ.length
    · rw [getElem?_wipe c c2, getElem?_wipe c (by rw [hl]; exact c2)]
    · rw [List.getElem?_eq_none (by rw [wipe_length]; omega), List.getElem?_eq_none (by rw [wipe_length]; omega)]
  · rw [wipe_out c, wipe_out c, h j c]
theorem geti_wipeS {env : Env} : ∀ {vs : List Nat} {j : Nat}, geti (wipeS env vs) j = if j ∈ vs then .u else geti env j
  | [], j => by simp [wipeS]
  | v :: vs, j => by
    unfold wipeS
    rw [geti_sets, geti_wipeS]
    by_cases c : v = j
    · subst c
      by_cases c2 : v < (wipeS env vs).length
      · simp [c2]
      · have : geti (wipeS env vs) v = .u := geti_out c2
        rw [geti_wipeS] at this
        simp [c2]
        intro h
        simpa [h] using this
    · by_cases c3 : j ∈ vs
      · simp [c, c3]
      · simp [c, c3, Ne.symm c]
theorem RpA.upd {A : Addr → Prop} {H : Hp} {D' : Addr} {o : HO} (hA : A D') {vs : List V} {ds : List D} (h : RpA A H vs ds) : RpA A (upd H D' o) vs ds :=
  RpA.keep (A := A) (fun a u e n => by rw [upd_ne (fun q => n (by rw [q]; exact hA))]; exact e) (fun a q => .inl q) _ _ h
def Pm.blk (p : Pm) : Pm := { p with W := fun _ _ _ _ => False, sx := none }
theorem OkX.blk {g : G} {k : Nat} {sc scope : Scope} {X : Cx} {p : Pm} (ok : OkX g k true sc X p) (s : Shared) (H : Hp) (C : Addr) (cl : List (Str × Addr)) (fp : List Addr) :
    OkX g k true (relS scope sc) (X.blk s H scope (compEnvC scope cl C X.env) fp) p.blk where
  hN := ok.hN
  nl := ok.nl
  nd := ok.nd
  sc := by
    show relS scope X.env.scope = _
    rw [ok.sc]
  cal := ok.cal
  room := ok.room
  un := ok.un
  lk := ok.lk
  tk := takes0
  nosx := fun _ => rfl
  sx := fun i c a h => by cases h
theorem stOk_blk {X : Cx} {scope : Scope} (s : Shared) (H : Hp) (C : Addr) (cl : List (Str × Addr)) (fp : List Addr) : StOk (X.blk s H scope (compEnvC scope cl C X.env) fp) scope := by
  intro x h
  unfold locB at h
  split at h
  · rename_i e
    have q := lookup_relS_keep (sc := X.env.scope) (by decide : NameKind.local ≠ .free) e
    exact ⟨.inl q, .inr q⟩
  · rename_i e
    have q := lookup_relS_keep (sc := X.env.scope) (by decide : NameKind.cell ≠ .free) e
    refine ⟨.inr q, .inl ?_⟩
    show (scope.names.lookup x == some .cell) = true
    rw [e]; rfl
  · cases h
theorem compL_cons {f : D → R (Option D)} {d : D} {r : List D} {l : List D} (h : compL f (d :: r) = .ok l) : (∃ x l', f d = .ok (some x) ∧ compL f r = .ok l' ∧ l = x :: l') ∨ (f d = .ok none ∧ compL f r = .ok l) := by
  simp only [compL] at h
  split at h
  · rename_i x e
    split at h
    · rename_i l' e2
      cases h
      exact .inl ⟨x, l', e, e2, rfl⟩
    · cases h
  · rename_i e
    exact .inr ⟨e, h⟩
  · cases h
theorem compL_nx {f : D → R (Option D)} {c : Str} : ∀ {l : List D}, compL f l ≠ .ex c
  | [] => by intro h; cases h
  | d :: r => by
    intro h
    simp only [compL] at h
    split at h
    · split at h <;> cases h
    · exact compL_nx h
    · cases h
set_option maxHeartbeats 1000000 in
/-! ### new lists -/
def TopNew (A : Addr → Prop) (H H' : Hp) (v : V) (d : D) : Prop := ∀ ds, d = .list ds → ∃ a xs, v = .ref a ∧ H a = none ∧ H' a = some (.lst xs) ∧ xs.length ≤ sizeLine ∧ RpA (fun b => A b ∨ b = a) H' xs ds
def tEf (p : Pm) (e : E) : TE := fun σ H Q => ∃ A env, Pre p e.vars A env σ H ∧ After p σ H (evE p.Φ e env) (fun d H' => ∀ v, Rp A H' v d → TopNew A H H' v d → Q v H')
theorem tE.f {p : Pm} {e : E} {σ : L2.St} {H : Hp} {Q : VK} (h : tE p e σ H Q) : tEf p e σ H Q := by
  obtain ⟨A, env, pre, q⟩ := h
  exact ⟨A, env, pre, q.mono fun d H' s q v hv _ => q v hv⟩
theorem rpA_one {A : Addr → Prop} {H : Hp} {a : Addr} {o : HO} {xs : List V} {ds : List D} (h : H a = none) (r : RpA A H xs ds) : RpA (fun b => A b ∨ b = a) (upd H a o) xs ds :=
  RpA.keep (Keep.of (same_upd h)) (fun b z => by
    rcases z with z | z
    · exact .inl z
    · exact .inr (by rw [z]; exact h)) _ _ r
theorem topNew {A : Addr → Prop} {H H1 : Hp} {a : Addr} {xs : List V} {ds : List D} (s : Same H H1) (h : H1 a = none) (z : xs.length ≤ sizeLine) (r : RpA A H1 xs ds) : TopNew A H (upd H1 a (.lst xs)) (.ref a) (.list ds) := fun ds' e => by
  cases e
  exact ⟨a, xs, rfl, s.free h, upd_same, z, rpA_one h r⟩
theorem i_lc {g : G} {k : Nat} {sc scope : Scope} {X : Cx} {p : Pm} {t : Expr} {tt : T} {i : I} {c : Oe} {x : E} (ok : OkX g k true sc X p)
    (htt : cT g scope t = some tt) (hids : (tt.ids.all fun j => ((ownOf g.N scope.names).map (·.2)).contains j) = true) :
    ∀ σ H Q, tEf p (.lc ((ownOf g.N scope.names).map (·.2)) tt i c x) σ H Q → tLc (tI p i) (gT X.K tt) (tF p.blk c) (tE p.blk x) ((ownOf g.N scope.names).map (·.2)) σ H Q := by
  intro σ H Q q
  generalize (ownOf g.N scope.names).map (·.2) = own at hids q
  obtain ⟨A, env, pre, q⟩ := q
  simp only [evE] at q
  refine ⟨A, env, pre.left, q.bind.mono fun ds H1 s1 q2 J runs hz D' hD => ?_⟩
  generalize hf : (fun d => match asgT tt d (wipeS env own) with
    | none => R.st
    | some env1 => match evT p.Φ c env1 with
      | .ok true => match evE p.Φ x env1 with
        | .ok x => .ok (some x)
        | _ => .st
      | .ok false => .ok none
      | _ => .st) = f at q2
  cases hl : compL f ds with
  | ex c => exact absurd hl compL_nx
  | st => rw [hl] at q2; exact q2.elim
  | ok l =>
    rw [hl] at q2
    have q3 : ∀ H', Same H1 H' → ∀ v, Rp A H' v (.list l) → TopNew A H H' v (.list l) → Q v H' := q2
    have hDH : H D' = none := s1.free hD
    have nAD : ¬ A D' := fun z => pre.tr D' z hDH
    have nosx : ∀ j c, geti env j ≠ .x c := fun j c e => by
      obtain ⟨a, e2, _⟩ := pre.xs j c e
      rw [ok.nosx rfl] at e2
      cases e2
    refine ⟨fun j m Hc => m = ds.length - j ∧ j ≤ ds.length ∧ Same H1 Hc ∧ ∃ acc accD rest, Hc D' = some (.lst acc) ∧ acc.length ≤ j ∧ RpA (fun a => A a ∨ a = D') Hc acc accD ∧ compL f (ds.drop j) = .ok rest ∧ accD ++ rest = l,
      ⟨ds.length, by simp, Nat.zero_le _, same_upd hD, [], [], l, upd_same, Nat.le_refl _, .nil, by simpa using hl, rfl⟩, ?_⟩
    rintro j m Hc ⟨rfl, hj, sc1, acc, accD, rest, ha, hal, hra, hcl, hre⟩
    by_cases hlt : j < ds.length
    · refine .inr ⟨runs.go j Hc (Keep.of sc1) hlt, fun Hc => (j + 1) ≤ ds.length ∧ Same H1 Hc ∧ ∃ acc accD rest, Hc D' = some (.lst acc) ∧ acc.length ≤ j + 1 ∧ RpA (fun a => A a ∨ a = D') Hc acc accD ∧ compL f (ds.drop (j + 1)) = .ok rest ∧ accD ++ rest = l,
        fun H' h => ⟨ds.length - (j + 1), by omega, rfl, h⟩, fun y H' hy => ?_⟩
      have tr' : Trk (fun a => A a ∨ a = D') Hc := fun a z => by
        rcases z with z | z
        · exact ((pre.tr.same s1).same sc1) a z
        · rw [z, ha]; simp
      obtain ⟨d, hd, s2, hrp⟩ := runs.yld j Hc y H' (fun a => A a ∨ a = D') hlt (Keep.of sc1) tr' (fun a z => by
        rcases z with z | z
        · exact .inl (aI z)
        · exact .inr (by rw [z]; exact hD)) hy
      have hdr : ds.drop j = d :: ds.drop (j + 1) := by
        have e := List.drop_eq_getElem_cons hlt
        rw [List.getElem?_eq_getElem hlt] at hd
        rw [e, Option.some.inj hd]
      rw [hdr] at hcl
      have sH : Same H H' := s1.trans (sc1.trans s2)
      -- the target
      have hfd : f d ≠ .st := by
        rcases compL_cons hcl with ⟨_, _, e, _⟩ | ⟨e, _⟩ <;> rw [e] <;> intro z <;> cases z
      have hfd' := congrFun hf d
      cases has : asgT tt d (wipeS env own) with
      | none => simp only [has] at hfd'; exact absurd hfd'.symm hfd
      | some env1 =>
      simp only [has] at hfd'
      have wl : (wipe σ own).length = σ.length := wipe_length σ own
      have rr0 : RR (c.vars ++ x.vars) (fun a => A a ∨ a = D') (wipeS env own) (wipe σ own) H' := by
        intro a haS e hae
        rw [geti_wipeS] at hae
        by_cases hin : a ∈ own
        · simp [hin, rdS] at hae
        · simp only [hin, if_false] at hae
          obtain ⟨v, e1, e2⟩ := pre.rr a (by simp only [E.vars]; exact List.mem_append_right _ haS) e hae
          exact ⟨v, by rw [wipe_out hin]; exact e1, Rp.keep (Keep.of sH) (fun b z => by
            rcases z with z | z
            · exact .inl z
            · exact .inr (by rw [z]; exact hDH)) e v e2⟩
      have xs0 : XS (none : Option (Nat × Str × Addr)) (wipeS env own) (wipe σ own) := by
        intro a c2 hac
        rw [geti_wipeS] at hac
        by_cases hin : a ∈ own
        · simp [hin] at hac
        · simp only [hin, if_false] at hac
          exact absurd hac (nosx a c2)
      have hlen : ∀ i ∈ tt.ids, i < (wipe σ own).length := fun i hi => by
        rw [wl, pre.len, ok.nl]
        exact cT_lt htt i hi
      have main := gT_ok (K := X.K) (S := c.vars ++ x.vars) has hlen hrp rr0 xs0
      refine gT_mono main fun σ2 H2 ⟨e1, e2, e3, e4, e5⟩ => ?_
      subst e1
      have hw : wipe σ2 own = wipe σ own := by
        refine wipe_eq (e2.trans wl) fun a hna => ?_
        rw [e5 a (fun z => hna (by simpa using List.all_eq_true.mp hids a z)), wipe_out hna]
      refine ⟨hw, ?_⟩
      have tr2 : Trk (fun a => A a ∨ a = D') H2 := tr'.same s2
      have pre2 : Pre p.blk (c.vars ++ x.vars) (fun a => A a ∨ a = D') env1 σ2 H2 := ⟨tr2, e3, e4, by rw [e2, wl]; exact pre.len⟩
      refine ⟨fun a => A a ∨ a = D', env1, pre2.left, ?_⟩
      have kp : ∀ {H3 : Hp} {o : HO}, Same H2 H3 → Same H1 (upd H3 D' o) := fun {H3 o} s3 b u e => by
        rw [upd_ne (ne_of_none e hD)]
        exact s3 b u (s2 b u (sc1 b u e))
      show After p.blk σ2 H2 (evT p.Φ c env1) _
      cases het : evT p.Φ c env1 with
      | ex c2 => simp only [het] at hfd'; exact absurd hfd'.symm hfd
      | st => simp only [het] at hfd'; exact absurd hfd'.symm hfd
      | ok b =>
        cases b with
        | false =>
          simp only [het] at hfd'
          rcases compL_cons hcl with ⟨_, _, e, _⟩ | ⟨e, hc2⟩
          · rw [← hfd'] at e; cases e
          intro H3 s3
          rw [if_neg (by decide)]
          exact ⟨hlt, sc1.trans (s2.trans s3), acc, accD, rest, (s2.trans s3) _ _ ha, Nat.le_succ_of_le hal, RpA.same (s2.trans s3) _ _ hra, hc2, hre⟩
        | true =>
          simp only [het] at hfd'
          intro H3 s3
          rw [if_pos rfl]
          refine ⟨fun a => A a ∨ a = D', env1, (pre2.same s3).right, ?_⟩
          show After p.blk σ2 H3 (evE p.Φ x env1) _
          cases hex : evE p.Φ x env1 with
          | ex c2 => simp only [hex] at hfd'; exact absurd hfd'.symm hfd
          | st => simp only [hex] at hfd'; exact absurd hfd'.symm hfd
          | ok z =>
            simp only [hex] at hfd'
            rcases compL_cons hcl with ⟨z', l', e, hc2, hrest⟩ | ⟨e, _⟩
            · rw [← hfd'] at e
              obtain rfl : z = z' := Option.some.inj (R.ok.inj e)
              intro H4 s4 v hv
              have s34 := s3.trans s4
              refine ⟨acc, (s2.trans s34) _ _ ha, by omega, hlt, kp s34, acc ++ [v], accD ++ [z], l', upd_same, by simp; omega, ?_, hc2, ?_⟩
              · exact RpA.upd (A := fun a => A a ∨ a = D') (.inr rfl) ((RpA.same (s2.trans s34) _ _ hra).append (.cons hv .nil))
              · rw [← hre, hrest, List.append_assoc]; rfl
            · rw [← hfd'] at e; cases e
    · have hj' : j = ds.length := by omega
      refine .inl ⟨runs.stop j Hc (Keep.of sc1) (by omega), ?_⟩
      rw [hj', List.drop_length] at hcl
      have hcl : rest = [] := (R.ok.inj hcl).symm
      subst hcl
      rw [List.append_nil] at hre
      subst hre
      exact q3 Hc sc1 _ (.lst nAD (.inl ha) (by omega) (RpA.less (fun a z => .inl z) _ _ hra)) fun ds e => by
        cases e
        exact ⟨D', acc, rfl, hDH, ha, by omega, hra⟩
theorem l_lcF {g : G} {k : Nat} {sc scope : Scope} {X : Cx} {p : Pm} {elt t it : Expr} {ifs : List Expr} {pos : Pos} {tt : T} {i : I} {c : Oe} {x : E} (ok : OkX g k true sc X p)
    (hb : blkC g.N sc scope (ownOf g.N scope.names) = true) (hi : PI X t it (tI p i)) (htt : cT g scope t = some tt) (hids : (tt.ids.all fun j => ((ownOf g.N scope.names).map (·.2)).contains j) = true) (hfold : ∀ y, foldedSetIterable it X.env y = pure y)
    (ht : ∀ X', OkX g k true (relS scope sc) X' p.blk → PTs X' ifs (tF p.blk c)) (he : ∀ X', OkX g k true (relS scope sc) X' p.blk → PE X' elt (tE p.blk x)) :
    PE X (.ListComp elt [⟨t, it, ifs, 0⟩] scope pos) (tEf p (.lc ((ownOf g.N scope.names).map (·.2)) tt i c x)) := by
  have hnd : X.N.Nodup := by rw [ok.hN]; exact ok.nd
  have hblk : BlkOk X.N X.env.scope scope (ownOf g.N scope.names) := by rw [ok.hN, ok.sc]; exact blkOk_by hb
  exact PE.imp (pe_lc (g := gT X.K tt) ok.cal hnd hi hblk (fun s H C cl fp => cT_ok (X := X.blk s H scope (compEnvC scope cl C X.env) fp) ok.hN ok.nd (.inl ok.cal) (stOk_blk s H C cl fp) htt) (fun s H C cl fp => ht _ (ok.blk s H C cl fp)) (fun s H C cl fp => he _ (ok.blk s H C cl fp)) hfold) (i_lc ok htt hids)
theorem l_setLc {g : G} {k : Nat} {sc scope : Scope} {X : Cx} {p : Pm} {elt t it : Expr} {ifs : List Expr} {pos spos py : Pos} {y : Str} {iy : Nat} {tt : T} {i : I} {c : Oe} {x : E} (ok : OkX g k true sc X p)
    (hb : blkC g.N sc scope (ownOf g.N scope.names) = true) (hi : PI X t it (tI p i)) (htt : cT g scope t = some tt) (hids : (tt.ids.all fun j => ((ownOf g.N scope.names).map (·.2)).contains j) = true) (hfold : ∀ y, foldedSetIterable it X.env y = pure y)
    (ht : ∀ X', OkX g k true (relS scope sc) X' p.blk → PTs X' ifs (tF p.blk c)) (he : ∀ X', OkX g k true (relS scope sc) X' p.blk → PE X' elt (tE p.blk x))
    (hy : ix? y g.N 0 = some iy) (hyl : X.env.scope.names.lookup y = some .local) (hsw : swapsWith (.ListComp elt [⟨t, it, ifs, 0⟩] scope pos) (some (.Name y py)) spos.line X.env = pure true) :
    PS X (.Assign [.Name y py] (.ListComp elt [⟨t, it, ifs, 0⟩] scope pos) spos) (tAsg (tEf p (.lc ((ownOf g.N scope.names).map (·.2)) tt i c x)) (gName iy)) := by
  have hnd : X.N.Nodup := by rw [ok.hN]; exact ok.nd
  have hblk : BlkOk X.N X.env.scope scope (ownOf g.N scope.names) := by rw [ok.hN, ok.sc]; exact blkOk_by hb
  refine ⟨fun pins s σ H D I h => (ps_setLc (g := gT X.K tt) (tt := tF p.blk c) (te := tE p.blk x) (own := ownOf g.N scope.names) ok.cal hnd (by rw [ok.hN]; exact ix?_zero hy) hyl hsw hi hblk (fun s H C cl fp => cT_ok (X := X.blk s H scope (compEnvC scope cl C X.env) fp) ok.hN ok.nd (.inl ok.cal) (stOk_blk s H C cl fp) htt) (fun s H C cl fp => ht _ (ok.blk s H C cl fp)) (fun s H C cl fp => he _ (ok.blk s H C cl fp)) hfold).run pins s σ H D I (i_lc ok htt hids _ _ _ h)⟩
theorem l_lc {g : G} {k : Nat} {sc scope : Scope} {X : Cx} {p : Pm} {elt t it : Expr} {ifs : List Expr} {pos : Pos} {tt : T} {i : I} {c : Oe} {x : E} (ok : OkX g k true sc X p)
    (hb : blkC g.N sc scope (ownOf g.N scope.names) = true) (hi : PI X t it (tI p i)) (htt : cT g scope t = some tt) (hids : (tt.ids.all fun j => ((ownOf g.N scope.names).map (·.2)).contains j) = true) (hfold : ∀ y, foldedSetIterable it X.env y = pure y)
    (ht : ∀ X', OkX g k true (relS scope sc) X' p.blk → PTs X' ifs (tF p.blk c)) (he : ∀ X', OkX g k true (relS scope sc) X' p.blk → PE X' elt (tE p.blk x)) :
    PE X (.ListComp elt [⟨t, it, ifs, 0⟩] scope pos) (tE p (.lc ((ownOf g.N scope.names).map (·.2)) tt i c x)) := PE.imp (l_lcF ok hb hi htt hids hfold ht he) fun σ H Q q => q.f
section
variable {g : G} {k n : Nat} {cm : Bool} {sc : Scope} {X : Cx} {p : Pm}
theorem rangeArgs_some {it : Expr} {args : List Expr} (h : rangeArgs sc it = some args) : ∃ p0 pos, it = .Call (.Name "range" p0) args [] pos ∧ glB sc "range" = true := by
  unfold rangeArgs at h
  split at h
  · split at h
    · rename_i c
      cases h
      simp only [Bool.and_eq_true, beq_iff_eq] at c
      obtain ⟨rfl, c⟩ := c
      exact ⟨_, _, rfl, c⟩
    · cases h
  · cases h
theorem enumArg_some {it a : Expr} (h : enumArg sc it = some a) : ∃ p0 pos, it = .Call (.Name "enumerate" p0) [a] [] pos ∧ glB sc "enumerate" = true := by
  unfold enumArg at h
  split at h
  · split at h
    · rename_i c
      cases h
      simp only [Bool.and_eq_true, beq_iff_eq] at c
      obtain ⟨rfl, c⟩ := c
      exact ⟨_, _, rfl, c⟩
    · cases h
  · cases h
theorem isSetCall_some {it a : Expr} (h : isSetCall sc it = some a) : ∃ p0 pos, it = .Call (.Name "set" p0) [a] [] pos ∧ glB sc "set" = true := by
  unfold isSetCall at h
  split at h
  · split at h
    · rename_i c
      cases h
      simp only [Bool.and_eq_true, beq_iff_eq] at c
      obtain ⟨rfl, c⟩ := c
      exact ⟨_, _, rfl, c⟩
    · cases h
  · cases h
theorem rgD_len (a b : Int) : (rgD a b).length = (b - a).toNat := by simp [rgD, iota_length]
theorem rgOk_iff {a b : Int} (h : rgOk a b = true) : -(2 ^ 60) < a ∧ a < 2 ^ 60 ∧ -(2 ^ 60) < b ∧ b < 2 ^ 60 ∧ b - a ≤ 10000000 := by
  simp only [rgOk, Bool.and_eq_true] at h
  obtain ⟨h1, h2, h3⟩ := h
  have h1 := Nat.le_of_ble_eq_true h1
  have h2 := Nat.le_of_ble_eq_true h2
  have h3 := Nat.le_of_ble_eq_true h3
  omega
theorem snd_i (IH : Snd g k n) : ∀ cm sc t it ir X p, OkX g k cm sc X p → cI g (n + 1) cm sc t it = some ir → PI X t it (tI p ir) := by
  intro cm sc t it ir X p ok h
  simp only [cI] at h
  split at h
  · rename_i a hra
    obtain ⟨p0, pos, rfl, hg⟩ := rangeArgs_some hra
    simp only [Option.map_eq_some_iff] at h
    obtain ⟨x, hx, rfl⟩ := h
    have ha := IH.e _ _ _ _ _ _ ok hx
    refine PI.imp (pi_range1 (gl_of ok.sc hg) (blt_of ok (by decide)) (pa_cons ha pa_nil (star_of hx [] X.env)) (star_of hx [] X.env)) fun σ H R q => ?_
    obtain ⟨A, env, pre, q⟩ := q
    simp only [evI] at q
    refine ⟨A, env, pre, q.bind.mono fun d H1 s q2 v hv => ?_⟩
    cases hv with
    | int j =>
      simp only at q2
      split at q2
      · rename_i c
        have c := rgOk_iff c
        refine ⟨j, rfl, by omega, by omega, ?_⟩
        have q3 := q2.here (Itr 0 (j - 0).toNat) Runs.rng (by rw [rgD_len, sizeLine_eq]; omega)
        rw [Int.sub_zero] at q3
        exact q3
      · exact q2.elim
    | _ => exact False.elim q2
  · rename_i a b hra
    obtain ⟨p0, pos, rfl, hg⟩ := rangeArgs_some hra
    simp only [Option.bind_eq_some_iff, Option.map_eq_some_iff] at h
    obtain ⟨x, hx, y, hy, rfl⟩ := h
    have ha := IH.e _ _ _ _ _ _ ok hx
    have hb := IH.e _ _ _ _ _ _ ok hy
    refine PI.imp (pi_range2 (gl_of ok.sc hg) (blt_of ok (by decide)) (pa_cons ha (pa_cons hb pa_nil (star_of hy [] X.env)) (star_of hx [b] X.env)) (by rw [star_of hx [b], star_of hy []]; rfl) (star_of hy [] X.env)) fun σ H R q => ?_
    obtain ⟨A, env, pre, q⟩ := q
    simp only [evI] at q
    have pre' : Pre p (x.vars ++ y.vars) A env σ H := pre
    refine ⟨A, env, pre'.left, q.bind.mono fun d H1 s q2 v hv => ⟨A, env, (pre'.same s).right, q2.bind.mono fun e H2 s2 q3 u hu => ?_⟩⟩
    cases hv with
    | int i => cases hu with
      | int j =>
        simp only at q3
        split at q3
        · rename_i c
          have c := rgOk_iff c
          exact ⟨i, j, rfl, ⟨by omega, by omega, by omega, by omega⟩, q3.here (Itr i (j - i).toNat) Runs.rng (by rw [rgD_len, sizeLine_eq]; omega)⟩
        · exact q3.elim
      | _ => exact False.elim q3
    | _ => exact False.elim q3
  · rename_i a b c hra
    obtain ⟨p0, pos, rfl, hg⟩ := rangeArgs_some hra
    simp only [Option.bind_eq_some_iff, Option.map_eq_some_iff] at h
    obtain ⟨x, hx, y, hy, z, hz, rfl⟩ := h
    have ha := IH.e _ _ _ _ _ _ ok hx
    have hb := IH.e _ _ _ _ _ _ ok hy
    have hc := IH.e _ _ _ _ _ _ ok hz
    refine PI.imp (pi_range3 (gl_of ok.sc hg) (blt_of ok (by decide)) (pa_cons ha (pa_cons hb (pa_cons hc pa_nil (star_of hz [] X.env)) (star_of hy [c] X.env)) (star_of hx [b, c] X.env)) (star_of hx [b, c] X.env) (by rw [star_of hy [c], star_of hz []]; rfl)) fun σ H R q => ?_
    obtain ⟨A, env, pre, q⟩ := q
    simp only [evI] at q
    have pre' : Pre p (x.vars ++ (y.vars ++ z.vars)) A env σ H := pre
    refine ⟨A, env, pre'.left, q.bind.mono fun d H1 s q2 v hv => ⟨A, env, (pre'.same s).right.left, q2.bind.mono fun e H2 s2 q3 u hu => ⟨A, env, (pre'.same (s.trans s2)).right.right, q3.bind.mono fun f H3 s3 q4 w hw => ?_⟩⟩⟩
    cases hv with
    | int i => cases hu with
      | int j => cases hw with
        | int kk =>
          simp only at q4
          split at q4
          · rename_i c
            simp only [Bool.and_eq_true, beq_iff_eq] at c
            obtain ⟨⟨c1, c2⟩, rfl⟩ := c
            have c1 := rgOk_iff c1
            have c2 := rgOk_iff c2
            refine ⟨i, j, -1, (i - j).toNat, rfl, ?_, q4.here (Itc i (-1) (i - j).toNat) Runs.rng3 (by rw [List.length_map, iota_length, sizeLine_eq]; omega)⟩
            exact RgC.neg (by omega) (by omega) (by omega) (by omega)
          · exact q4.elim
        | _ => exact False.elim q4
      | _ => exact False.elim q4
    | _ => exact False.elim q4
  · cases h
  · split at h
    · rename_i a hen
      obtain ⟨p0, pos, rfl, hg⟩ := enumArg_some hen
      split at h
      · simp only [Option.map_eq_some_iff] at h
        obtain ⟨x, hx, rfl⟩ := h
        have ha := IH.e _ _ _ _ _ _ ok hx
        refine PI.imp (pi_enum (gl_of ok.sc hg) (blt_of ok (by decide)) (pa_cons ha pa_nil (star_of hx [] X.env)) (star_of hx [] X.env)) fun σ H R q => ?_
        obtain ⟨A, env, pre, q⟩ := q
        simp only [evI] at q
        refine ⟨A, env, pre, q.bind.mono fun d H1 s q2 v hv => ?_⟩
        cases hv with
        | lst nn hr z ra =>
          exact ⟨_, _, rfl, .inl hr, After.here q2 _ (Runs.en nn hr ra) (by rw [enumD_length, ← ra.length]; exact z)⟩
        | _ => exact False.elim q2
      · cases h
    · simp only [Option.map_eq_some_iff] at h
      obtain ⟨x, hx, rfl⟩ := h
      have ha := IH.e _ _ _ _ _ _ ok hx
      refine PI.imp (pi_seq ha) fun σ H R q => ?_
      obtain ⟨A, env, pre, q⟩ := q
      simp only [evI] at q
      refine ⟨A, env, pre, q.bind.mono fun d H1 s q2 v hv => ?_⟩
      cases hv with
      | lst nn hr z ra => exact ⟨_, _, rfl, .inl ⟨hr, After.here q2 _ (Runs.list nn hr ra) (by rw [← ra.length]; exact z)⟩⟩
      | tup nn hr z ra => exact ⟨_, _, rfl, .inr ⟨hr, After.here q2 _ (Runs.tup nn hr ra) (by rw [← ra.length]; exact z)⟩⟩
      | _ => exact False.elim q2
theorem snd_o (IH : Snd g k n) : ∀ cm sc o ir X p, OkX g k cm sc X p → cO g (n + 1) cm sc o = some ir → PO X o (tO p ir) := by
  intro cm sc o ir X p ok h
  cases o with
  | none =>
    simp only [cO, Option.some.injEq] at h
    subst h
    refine PO.imp po_none fun σ H Q q => ?_
    obtain ⟨A, env, pre, q⟩ := q
    exact q.here
  | some e =>
    simp only [cO, Option.map_eq_some_iff] at h
    obtain ⟨x, hx, rfl⟩ := h
    refine PO.imp (po_some (IH.e _ _ _ _ _ _ ok hx)) fun σ H Q q => ?_
    obtain ⟨A, env, pre, q⟩ := q
    simp only [evO] at q
    refine ⟨A, env, pre, q.bind.mono fun d H1 s q2 v hv => ?_⟩
    cases hv with
    | int i => exact ⟨i, rfl, q2.here⟩
    | _ => exact False.elim q2
theorem snd_f (IH : Snd g k n) : ∀ cm sc l ir X p, OkX g k cm sc X p → cF g (n + 1) cm sc l = some ir → PTs X l (tF p ir) := by
  intro cm sc l ir X p ok h
  match l, h with
  | [], h =>
    simp only [cF, Option.some.injEq] at h
    subst h
    refine PTs.imp pts_nil fun σ H Q q => ?_
    obtain ⟨A, env, pre, q⟩ := q
    exact q.here
  | [e], h =>
    simp only [cF, Option.map_eq_some_iff] at h
    obtain ⟨x, hx, rfl⟩ := h
    exact PTs.imp (pts_one (IH.t _ _ _ _ _ _ ok hx)) fun σ H Q q => q
  | _ :: _ :: _, h => simp [cF] at h
theorem snd_es (IH : Snd g k n) : ∀ cm sc es ir X p, OkX g k cm sc X p → cEs g (n + 1) cm sc es = some ir → PA X es (tEs p ir) := by
  intro cm sc es ir X p ok h
  cases es with
  | nil =>
    simp only [cEs, Option.some.injEq] at h
    subst h
    refine PA.imp pa_nil fun σ H Q q => ?_
    obtain ⟨A, env, pre, q⟩ := q
    exact q.here _ .nil
  | cons e r =>
    simp only [cEs, Option.bind_eq_some_iff, Option.map_eq_some_iff] at h
    obtain ⟨x, hx, y, hy, rfl⟩ := h
    refine PA.imp (pa_cons (IH.e _ _ _ _ _ _ ok hx) (IH.es _ _ _ _ _ _ ok hy) (star_of hx r X.env)) fun σ H Q q => ?_
    obtain ⟨A, env, pre, q⟩ := q
    simp only [evs] at q
    have pre' : Pre p (x.vars ++ y.vars) A env σ H := pre
    exact ⟨A, env, pre'.left, q.bind.mono fun d H1 s q2 v hv => ⟨A, env, (pre'.same s).right, q2.bind.mono fun l H2 s2 q3 vs hvs => q3.here _ (.cons (Rp.same s2 _ _ hv) hvs)⟩⟩
theorem nobeh {e : Expr} {x : E} (h : cE g n cm sc e = some x) (op : CmpOp) : behindInMarks op e = false := by
  cases n with
  | zero => simp [cE] at h
  | succ n => cases e <;> first | rfl | (simp [cE] at h)
theorem snd_c (IH : Snd g k n) : ∀ cm sc os bs ir X p, OkX g k cm sc X p → cC g (n + 1) cm sc os bs = some ir → lastMarks os bs = false ∧
    (∀ pos pins s σ H x v Q, Inv X pins σ H s → RelV x v → tCh p ir x σ H Q → wpAny (model X.prog X.w) X.A (compareChain pos v os (evalEach bs X.env)) (EP X pins σ Q) X.xe s) ∧
    (∀ pos pins s σ H x v Q, Inv X pins σ H s → RelV x v → tChT p ir x σ H Q → wpAny (model X.prog X.w) X.A (testChain pos v os (evalEach bs X.env)) (TP X pins σ Q) X.xe s) := by
  intro cm sc os bs ir X p ok h
  have hu : X.A.units + 65 < cLine := by have := ok.un; omega
  match os, bs, h with
  | [o], [b], h =>
    simp only [cC, Option.bind_eq_some_iff, Option.map_eq_some_iff] at h
    obtain ⟨c, ho, y, hy, rfl⟩ := h
    rw [cmOf_eq ho]
    have hb := IH.e _ _ _ _ _ _ ok hy
    refine ⟨nobeh hy _, fun pos pins s σ H x v Q I rx q => ?_, fun pos pins s σ H x v Q I rx q => ?_⟩
    · obtain ⟨A, env, d, pre, hx, q⟩ := q
      simp only [evC] at q
      refine chain_last (thn (hb.run pins s σ H (fun u H1 => rCm (evCm c) x u H1 Q) I ⟨A, env, pre, q.bind.mono fun e H1 s1 q2 u hu => ?_⟩) fun u s2 ⟨y, H2, I2, r2, q2⟩ => op_C hu c pins s2 σ H2 x y v u Q I2 rx r2 q2)
      cases e2 : evCm c d e with
      | ok b => rw [e2] at q2; exact ⟨A, d, e, b, Rp.same s1 _ _ hx, hu, e2, q2.here _ (.bl _)⟩
      | ex c2 => exact absurd e2 (evCm_nx c2)
      | st => rw [e2] at q2; exact q2.elim
    · obtain ⟨A, env, d, pre, hx, q⟩ := q
      simp only [evC] at q
      have q := q.toB.bind
      refine test_last (thn (hb.run pins s σ H (fun u H1 => rCm (evCm c) x u H1 fun z H2 => ∃ k, z = .bl k ∧ Q k H2) I ⟨A, env, pre, q.mono fun e H1 s1 q2 u hu => ?_⟩) fun u s2 ⟨y, H2, I2, r2, q2⟩ => thn (op_C hu c pins s2 σ H2 x y v u _ I2 rx r2 q2) fun w' s3 ⟨z, H3, I3, r3, k, e, q3⟩ => ?_)
      · cases e2 : evCm c d e with
        | ok b =>
          rw [e2] at q2
          obtain ⟨b', e3, q3⟩ := q2.here
          cases e3
          exact ⟨A, d, e, b, Rp.same s1 _ _ hx, hu, e2, b, rfl, q3⟩
        | ex c2 => exact absurd e2 (evCm_nx c2)
        | st => rw [e2] at q2; exact q2.elim
      · subst e
        cases r3
        exact wpAny_truthy_bool ⟨H3, I3, q3⟩
  | o :: o2 :: os, b :: b2 :: bs, h =>
    simp only [cC, Option.bind_eq_some_iff, Option.map_eq_some_iff] at h
    obtain ⟨c, ho, y, hy, r, hr, rfl⟩ := h
    rw [cmOf_eq ho]
    have hb := IH.e _ _ _ _ _ _ ok hy
    obtain ⟨g1, g2, g3⟩ := IH.c _ _ _ _ _ _ _ ok hr
    have step : ∀ {A env} {d : D} {σ : L2.St} {H : Hp} {x : V} {Q : D → Hp → Prop}, Pre p (y.vars ++ r.vars) A env σ H → Rp A H x d → After p σ H (evC p.Φ (.more c y r) d env) Q →
        tE p y σ H fun u H1 => ∃ e k, Pre p r.vars A env σ H1 ∧ Rp A H1 x d ∧ Rp A H1 u e ∧ evCm c d e = .ok k ∧ After p σ H1 (if k then evC p.Φ r e env else .ok (.bool false)) Q := by
      intro A env d σ H x Q pre hx q
      simp only [evC] at q
      refine ⟨A, env, pre.left, q.bind.mono fun e H1 s1 q2 u hu => ?_⟩
      cases e2 : evCm c d e with
      | ok b => rw [e2] at q2; exact ⟨e, b, (pre.same s1).right, Rp.same s1 _ _ hx, hu, e2, q2⟩
      | ex c2 => exact absurd e2 (evCm_nx c2)
      | st => rw [e2] at q2; exact q2.elim
    refine ⟨g1, fun pos pins s σ H x v Q I rx q => ?_, fun pos pins s σ H x v Q I rx q => ?_⟩
    · obtain ⟨A, env, d, pre, hx, q⟩ := q
      refine chain_link (thn (hb.run pins s σ H _ I (step pre hx q)) fun u s2 ⟨z, H2, I2, r2, e, kk, pr, hx2, hz2, ek, q2⟩ => thn (op_C hu c pins s2 σ H2 x z v u (fun w' H3 => w' = .bl kk ∧ H3 = H2) I2 rx r2 ⟨A, d, e, kk, hx2, hz2, ek, rfl, rfl⟩) fun w' s3 ⟨w2, H3, I3, r3, e3, e4⟩ => ?_)
      subst e3 e4
      cases r3
      refine wpAny_truthy_bool ?_
      cases kk with
      | false => exact ite_ff ⟨.bl false, H3, I3, rfl, q2.here _ (.bl _)⟩
      | true => exact ite_tt (g2 pos pins s3 σ H3 z u Q I3 r2 ⟨A, env, e, pr, hz2, q2⟩)
    · obtain ⟨A, env, d, pre, hx, q⟩ := q
      refine test_link (thn (hb.run pins s σ H _ I (step pre hx q.toB)) fun u s2 ⟨z, H2, I2, r2, e, kk, pr, hx2, hz2, ek, q2⟩ => thn (op_C hu c pins s2 σ H2 x z v u (fun w' H3 => w' = .bl kk ∧ H3 = H2) I2 rx r2 ⟨A, d, e, kk, hx2, hz2, ek, rfl, rfl⟩) fun w' s3 ⟨w2, H3, I3, r3, e3, e4⟩ => ?_)
      subst e3 e4
      cases r3
      refine wpAny_truthy_bool ?_
      cases kk with
      | false =>
        obtain ⟨b', e5, q3⟩ := q2.here
        cases e5
        exact ite_ff ⟨H3, I3, q3⟩
      | true =>
        refine ite_tt (g3 pos pins s3 σ H3 z u Q I3 r2 ⟨A, env, e, pr, hz2, ?_⟩)
        have q2 : After p σ H3 (evC p.Φ r e env) _ := q2
        cases e6 : evC p.Φ r e env with
        | ok d2 =>
          rw [e6] at q2
          obtain ⟨b', e5, q3⟩ := q2.here
          subst e5
          exact fun H4 s4 => by
            obtain ⟨b2, e7, q4⟩ := q2 H4 s4
            cases e7
            exact q4
        | ex c2 => rw [e6] at q2; exact q2
        | st => rw [e6] at q2; exact q2
  | [], _, h => simp [cC] at h
  | [_], [], h => simp [cC] at h
  | [_], _ :: _ :: _, h =>
    cases n <;> simp [cC] at h
  | _ :: _ :: _, [], h => simp [cC] at h
  | _ :: _ :: _, [_], h =>
    cases n <;> simp [cC] at h
end
theorem biOf_one {f : Str} {b : Bi} (h : biOf f 1 = some b) : (f = "len" ∧ b = .len) ∨ (f = "abs" ∧ b = .abs) ∨ (f = "min" ∧ b = .min1) ∨ (f = "max" ∧ b = .max1) ∨ (f = "sorted" ∧ b = .sorted) ∨ (f = "sum" ∧ b = .sum) ∨ (f = "all" ∧ b = .all) ∨ (f = "any" ∧ b = .any) := by
  unfold biOf at h
  repeat' (split at h <;> (try (rename_i c; simp at c; cases h; simp [c]; done)))
  all_goals simp_all
theorem biOf_two {f : Str} {b : Bi} (h : biOf f 2 = some b) : (f = "min" ∧ b = .min2) ∨ (f = "max" ∧ b = .max2) := by
  unfold biOf at h
  repeat' (split at h <;> (try (rename_i c; simp at c; cases h; simp [c]; done)))
  all_goals simp_all
theorem tyOf_one {f : Str} {b : Bi} (h : tyOf f 1 = some b) : (f = "int" ∧ b = .int) ∨ (f = "tuple" ∧ b = .tuple) ∨ (f = "list" ∧ b = .list) ∨ (f = "str" ∧ b = .str) := by
  unfold tyOf at h
  repeat' (split at h <;> (try (rename_i c; simp at c; cases h; simp [c]; done)))
  all_goals simp_all
theorem kindB_some {sc : Scope} {e : Expr} {b : Bi} (h : kindB sc e = some b) : ∃ x pos, e = .Name x pos ∧ glB sc x = true ∧ ((x = "int" ∧ b = .isInt) ∨ (x = "str" ∧ b = .isStr) ∨ (x = "bool" ∧ b = .isBool) ∨ (x = "tuple" ∧ b = .isTup)) := by
  unfold kindB at h
  split at h
  · split at h
    · rename_i c
      refine ⟨_, _, rfl, c, ?_⟩
      repeat' (split at h <;> (try (rename_i c; simp at c; cases h; simp [c]; done)))
      all_goals simp_all
    · cases h
  · cases h
section
variable {g : G} {k n : Nat} {sc : Scope} {X : Cx} {p : Pm}
theorem l_bi {f : Str} {b : Bi} {a : Expr} {x : E} {p0 pos : Pos} (ok : OkX g k true sc X p) (hg : glB sc f = true) (h : biOf f 1 = some b) (hx : cE g n true sc a = some x) (ha : PE X a (tE p x)) : PE X (.Call (.Name f p0) [a] [] pos) (tE p (.bi b (.cons x .nil))) := by
  have hc : X.calm = true := ok.cal
  have hu : X.A.units + 100 < cLine := by have := ok.un; omega
  rcases biOf_one h with ⟨rfl, rfl⟩ | ⟨rfl, rfl⟩ | ⟨rfl, rfl⟩ | ⟨rfl, rfl⟩ | ⟨rfl, rfl⟩ | ⟨rfl, rfl⟩ | ⟨rfl, rfl⟩ | ⟨rfl, rfl⟩
  · exact l_bi1 ok hg (by decide) PySem.boot_len (by decide) (by decide) c_len hx ha
  · exact l_bi1 ok hg (by decide) PyProof.Rows.boot_abs (by decide) (by decide) c_abs hx ha
  · exact l_bi1 ok hg (by decide) PyProof.Rows.boot_min (by decide) (by decide) (c_min1 hc hu) hx ha
  · exact l_bi1 ok hg (by decide) PyProof.Rows.boot_max (by decide) (by decide) (c_max1 hc) hx ha
  · exact l_bi1 ok hg (by decide) PyProof.Rows.boot_sorted (by decide) (by decide) (c_sorted hu) hx ha
  · exact l_bi1 ok hg (by decide) PyProof.Rows.boot_sum (by decide) (by decide) (c_sum hc) hx ha
  · exact l_bi1 ok hg (by decide) PyProof.Rows.boot_all (by decide) (by decide) (c_all hc) hx ha
  · exact l_bi1 ok hg (by decide) PyProof.Rows.boot_any (by decide) (by decide) (c_any hc) hx ha
theorem l_ty {cm : Bool} {f : Str} {b : Bi} {a : Expr} {x : E} {p0 pos : Pos} (ok : OkX g k cm sc X p) (hg : glB sc f = true) (h : tyOf f 1 = some b) (hx : cE g n cm sc a = some x) (ha : PE X a (tE p x)) : PE X (.Call (.Name f p0) [a] [] pos) (tE p (.bi b (.cons x .nil))) := by
  rcases tyOf_one h with ⟨rfl, rfl⟩ | ⟨rfl, rfl⟩ | ⟨rfl, rfl⟩ | ⟨rfl, rfl⟩
  · exact l_ty1 ok hg (by decide) PyProof.Rows.boot_int (by decide) (by decide) c_int hx ha
  · exact l_ty1 ok hg (by decide) PyProof.Rows.boot_tuple (by decide) (by decide) c_tuple hx ha
  · exact l_ty1 ok hg (by decide) PyProof.Rows.boot_list (by decide) (by decide) c_list hx ha
  · exact l_ty1 ok hg (by decide) PyProof.Rows.boot_str (by decide) (by decide) c_str hx ha
theorem prg1 {cm : Bool} {b : Expr} {x : E} {p0 pos : Pos} (ok : OkX g k cm sc X p) (hg : glB sc "range" = true) (hx : cE g n cm sc b = some x) (ha : PE X b (tE p x)) : PRg X (.Call (.Name "range" p0) [b] [] pos) (tRg1 (tE p x)) :=
  prg_1 (gl_of ok.sc hg) (blt_of ok (by decide)) ha (star_of hx [] X.env)
theorem prg2 {cm : Bool} {b c : Expr} {x y : E} {p0 pos : Pos} (ok : OkX g k cm sc X p) (hg : glB sc "range" = true) (hx : cE g n cm sc b = some x) (ha : PE X b (tE p x)) (hy : cE g n cm sc c = some y) (hb : PE X c (tE p y)) : PRg X (.Call (.Name "range" p0) [b, c] [] pos) (tRg2 (tE p x) (tE p y)) :=
  prg_2 (gl_of ok.sc hg) (blt_of ok (by decide)) ha hb (star_of hx [c] X.env) (star_of hy [] X.env) (by rw [star_of hy [] X.env]; rfl)
theorem iota_rg (a b : Int) : L2.rgV a b = (iota a (b - a).toNat).map V.int := by
  unfold L2.rgV
  apply List.ext_getElem?
  intro i
  by_cases h : i < (b - a).toNat
  · rw [List.getElem?_map, List.getElem?_map, iota_get _ _ _ h, List.getElem?_range h]; rfl
  · rw [List.getElem?_eq_none (by simp; omega), List.getElem?_eq_none (by simp [iota_length]; omega)]
theorem rgV_rp {A : Addr → Prop} {H : Hp} (a b : Int) : RpA A H (L2.rgV a b) (rgD a b) := by
  rw [iota_rg]
  exact RpA.ofInts
theorem rg_ok {a b : Int} (h : rgOk a b = true) : RgOk a b ∧ (L2.rgV a b).length ≤ sizeLine := by
  have c := rgOk_iff h
  refine ⟨⟨by omega, by omega, by omega, by omega, by omega⟩, ?_⟩
  rw [rgV_length, sizeLine_eq]; omega
theorem l_tix {cm : Bool} {o a : Expr} {m : Str} {ys : List Str} {y : E} {ap pos : Pos} (h : tixOf o m = some ys) (hl : (ap.endLine == pos.line) = true) (hy : cE g n cm sc a = some y) (ha : PE X a (tE p y)) : PE X (.Call (.Attribute o m ap) [a] [] pos) (tE p (.bi (.tix ys) (.cons y .nil))) := by
  unfold tixOf at h
  split at h
  · rename_i mm es k tp
    split at h
    · rename_i c
      rw [Bool.and_eq_true] at c
      obtain ⟨c1, c2⟩ := c
      have c1 := eq_of_beq c1
      subst c1
      refine PE.imp (pe_tix h (of_decide_eq_true c2) ha (star_of hy [] X.env) hl) fun σ H Q q t ht => ?_
      have q := bi1 q
      obtain ⟨A, env, pre, q⟩ := q
      refine ⟨A, env, pre.same (same_upd ht), (q.from (same_upd ht)).mono fun d H' s q v hv => ?_⟩
      obtain ⟨A', a', tr, ra, hq⟩ := q v hv
      cases ra with
      | str z =>
        obtain ⟨hm, hq⟩ := hq.ite
        exact ⟨z, rfl, s t _ (if_pos rfl), hm, hq.of _ _ (Same.refl H') (.int _)⟩
      | _ => exact hq.st
    · cases h
  · cases h
theorem l_isx {f : Str} {a b : Expr} {i : Nat} {c : Str} {cm : Bool} {p0 pos : Pos} (ok : OkX g k cm sc X p) (hg : glB sc "isinstance" = true) (h : clsArg g sc a b = some (i, c)) : PE X (.Call (.Name "isinstance" p0) [a, b] [] pos) (tE p (.isx i c)) := by
  unfold clsArg at h
  split at h
  · rename_i x px y py
    split at h
    · rename_i j hj
      split at h
      · rename_i hc
        simp only [Bool.and_eq_true, Option.some.injEq, Prod.mk.injEq] at h hc
        obtain ⟨rfl, rfl⟩ := h
        obtain ⟨⟨⟨⟨⟨h0, h1⟩, h2⟩, h3⟩, h4⟩, h5⟩ := hc
        simp only [Bool.not_eq_true', Bool.or_eq_false_iff] at h4 h5
        refine ⟨fun pins s σ H Q I q => ?_⟩
        obtain ⟨A, env, pre, q⟩ := q
        simp only [evE] at q
        split at q
        · rename_i kk hk
          obtain ⟨a, hsx, hσ⟩ := pre.xs _ _ hk
          obtain ⟨hke, X0, oe, pn, hX, hz, hfl⟩ := ok.sx _ _ _ hsx
          have c1 := ok.lk.cl kk hke
          have hy : y ∈ g.ecs := by simpa using h3
          have c2 := ok.lk.cl y hy
          have hci : CallR X (.builtin "isinstance") (rIsE X.K (p.ec kk) a) := by
            have e1 : X.K = X0.K := by rw [hX]
            have xc := (ok.lk.ix h0 kk y hke hy).1
            rw [e1] at xc
            rw [e1, hX]
            exact call_isE (X := X0) xc hz hfl
          refine (pe_callB hci (gl_of ok.sc hg) (blt_of ok (by decide)) PyProof.Rows.boot_isinstance (pa_cons (pe_var (i := j) (by rw [ok.hN]; exact ix?_zero hj) (by rw [ok.sc]; exact vis_of h1) h4.1 h4.2) (pa_cons (pe_glob (v := .ref (p.ec y)) (gl_of ok.sc h2) c2.gl rfl h5) pa_nil rfl) rfl) (by decide) (by decide) rfl rfl).run pins s σ H Q I ?_
          exact ⟨_, hσ, .ref (p.ec y), .ref (p.ec y), subC kk y, rfl, fun u h => h, (ok.lk.ix h0 kk y hke hy).2, q.here _ (.bl _)⟩
        · exact q.elim
      · cases h
    · cases h
  · cases h
end
theorem base_of {g : G} {n : Nat} {cm : Bool} {sc : Scope} {o : Expr} {x : E} (h : cE g n cm sc o = some x) (m : Str) (env : PySem.Env) (w : Sem Value) : attributeBase o m env w = w := by
  cases n with
  | zero => simp [cE] at h
  | succ n =>
    unfold attributeBase
    split
    · exfalso
      rename_i id p0 pos
      have e : cE g (n + 1) cm sc (.Call (.Name id p0) [] [] pos) = none := by
        simp only [cE]
        split
        · rfl
        · split
          · simp
          · rfl
      rw [e] at h
      cases h
    · rfl
theorem fold_of {g : G} {n : Nat} {cm : Bool} {sc : Scope} {t it : Expr} {i : I} (h : cI g n cm sc t it = some i) (env : PySem.Env) : ∀ y, foldedSetIterable it env y = pure y := by
  intro y
  cases n with
  | zero => simp [cI] at h
  | succ n =>
    cases it <;> first | rfl | skip
    simp only [cI, rangeArgs, enumArg] at h
    cases n <;> simp [cE] at h
theorem l_mth {g : G} {k n : Nat} {cm : Bool} {sc : Scope} {X : Cx} {p : Pm} {o a : Expr} {m : Str} {q : Mt} {x y : E} {ap pos : Pos} (ok : OkX g k cm sc X p) (hm : mtOf m = some q) (hl : (ap.endLine == pos.line) = true) (hx : cE g n cm sc o = some x) (hy : cE g n cm sc a = some y)
    (ha : PE X o (tE p x)) (hb : PE X a (tE p y)) : PE X (.Call (.Attribute o m ap) [a] [] pos) (tE p (.mth q x y)) := by
  have hu : X.A.units + 65 < cLine := by have := ok.un; omega
  have e : m = mtName q := by
    unfold mtOf at hm
    repeat' (split at hm <;> (try (rename_i c; simp at c; cases hm; simp [c, mtName]; done)))
    all_goals simp_all
  subst e
  refine PE.imp (pe_bmD ha (pa_cons hb pa_nil (star_of hy [] X.env)) (base_of hx _ _ _) (by rw [star_of hy [] X.env]; rfl) hl (star_of hy [] X.env) rfl) fun σ H Q h => ?_
  obtain ⟨A, env, pre, h⟩ := h
  simp only [evE] at h
  refine ⟨A, env, pre.left, h.bind.mono fun d H1 s h2 v hv => ?_⟩
  split at h2
  · rename_i c
    refine ⟨rM q d, m_D hu hv c, A, env, (pre.same s).right, h2.bind.mono fun e H2 s2 h3 u hu2 => ⟨A, u, e, rfl, pre.tr.same (s.trans s2), Rp.same s2 _ _ hv, hu2, After.aft (p := p) (σ := σ) evMt_nx h3⟩⟩
  · exact h2.elim
theorem snd_e {g : G} {k n : Nat} (IH : Snd g k n) : ∀ cm sc e ir X p, OkX g k cm sc X p → cE g (n + 1) cm sc e = some ir → PE X e (tE p ir) := by
  intro cm sc e ir X p ok h
  unfold cE at h
  split at h
  · exact l_name ok h
  · cases h; exact PE.imp pe_int fun σ H Q ⟨A, env, pre, q⟩ => q.here _ (.int _)
  · cases h; exact PE.imp pe_str fun σ H Q ⟨A, env, pre, q⟩ => q.here _ (.str _)
  · cases h; exact PE.imp pe_bl fun σ H Q ⟨A, env, pre, q⟩ => q.here _ (.bl _)
  · cases h; exact PE.imp pe_non fun σ H Q ⟨A, env, pre, q⟩ => q.here _ .non
  · simp only [Option.map_eq_some_iff] at h
    obtain ⟨x, hx, rfl⟩ := h
    exact l_not (IH.e _ _ _ _ _ _ ok hx)
  · simp only [Option.map_eq_some_iff] at h
    obtain ⟨x, hx, rfl⟩ := h
    exact l_neg (IH.e _ _ _ _ _ _ ok hx)
  · exact (IH.an _ _ _ _ _ _ _ _ ok h).1
  · exact (IH.or _ _ _ _ _ _ _ _ ok h).1
  · simp only [Option.bind_eq_some_iff, Option.map_eq_some_iff] at h
    obtain ⟨o, ho, x, hx, y, hy, rfl⟩ := h
    exact l_op ho (IH.e _ _ _ _ _ _ ok hx) (IH.e _ _ _ _ _ _ ok hy)
  · simp only [Option.map_eq_some_iff] at h
    obtain ⟨x, hx, rfl⟩ := h
    exact (l_isN (IH.e _ _ _ _ _ _ ok hx)).1
  · simp only [Option.map_eq_some_iff] at h
    obtain ⟨x, hx, rfl⟩ := h
    exact (l_notN (IH.e _ _ _ _ _ _ ok hx)).1
  · split at h
    · rename_i neg l hcst
      simp only [Option.map_eq_some_iff] at h
      obtain ⟨x, hx, rfl⟩ := h
      exact (l_cst ok hcst (IH.e _ _ _ _ _ _ ok hx)).1
    · simp only [Option.bind_eq_some_iff, Option.map_eq_some_iff] at h
      obtain ⟨x, hx, r, hr, rfl⟩ := h
      rename_i a ops cs pos _ _ _ _
      obtain ⟨g1, g2, g3⟩ := IH.c _ _ _ _ _ _ _ ok hr
      refine ⟨fun pins s σ H Q I q => ?_⟩
      show wpAny _ _ (do compareChain pos (← eval a X.env) ops (markedEach ops cs (evalEach cs X.env))) _ _ s
      rw [markedEach_of_false _ _ _ g1]
      obtain ⟨A, env, pre, q⟩ := q
      simp only [evE] at q
      have pre' : Pre p (x.vars ++ r.vars) A env σ H := pre
      exact wpAny_bind (thn ((IH.e _ _ _ _ _ _ ok hx).run pins s σ H (fun v H1 => tCh p r v σ H1 Q) I ⟨A, env, pre'.left, q.bind.mono fun d H1 s1 q2 v hv => ⟨A, env, d, (pre'.same s1).right, hv, q2⟩⟩) fun v s1 ⟨y, H1, I1, r1, q1⟩ => g2 pos pins s1 σ H1 y v Q I1 r1 q1)
  · split at h
    · rename_i c
      simp only [Option.map_eq_some_iff] at h
      obtain ⟨x, hx, rfl⟩ := h
      exact l_tup c hx (IH.es _ _ _ _ _ _ ok hx)
    · cases h
  · split at h
    · rename_i c
      simp only [Option.map_eq_some_iff] at h
      obtain ⟨x, hx, rfl⟩ := h
      exact l_lst c hx (IH.es _ _ _ _ _ _ ok hx)
    · cases h
  · simp only [Option.map_eq_some_iff] at h
    obtain ⟨x, hx, rfl⟩ := h
    exact l_rev (IH.e _ _ _ _ _ _ ok hx)
  · simp only [Option.bind_eq_some_iff, Option.map_eq_some_iff] at h
    obtain ⟨x, hx, l, hl, u, hu, rfl⟩ := h
    exact l_sl (IH.e _ _ _ _ _ _ ok hx) (IH.o _ _ _ _ _ _ ok hl) (IH.o _ _ _ _ _ _ ok hu)
  · cases h
  · simp only [Option.bind_eq_some_iff, Option.map_eq_some_iff] at h
    obtain ⟨x, hx, y, hy, rfl⟩ := h
    rename_i hs
    exact l_ix (IH.e _ _ _ _ _ _ ok hx) (IH.e _ _ _ _ _ _ ok hy) fun a b c d e => hs a b c d e
  · rename_i f p0 args pos
    split at h
    · cases h
    rename_i hgd
    simp only [Bool.or_eq_true, not_or, Bool.not_eq_true', Bool.not_eq_false, Bool.not_eq_true] at hgd
    obtain ⟨hg, hd⟩ := hgd
    split at h
    · rename_i m hf
      split at h
      · rename_i c
        simp only [Bool.and_eq_true, Bool.not_eq_true', beq_iff_eq] at c
        obtain ⟨⟨rfl, c2⟩, c3⟩ := c
        simp only [Option.map_eq_some_iff] at h
        obtain ⟨x, hx, rfl⟩ := h
        cases args with
        | nil => cases c3
        | cons e es => exact l_call ok hg hd hf c2 hx (IH.es _ _ _ _ _ _ ok hx)
      · cases h
    · split at h
      · rename_i a
        split at h
        · rename_i b hset
          split at h
          · rename_i c
            simp only [Bool.and_eq_true, beq_iff_eq] at c
            obtain ⟨rfl, rfl⟩ := c
            simp only [Option.map_eq_some_iff] at h
            obtain ⟨x, hx, rfl⟩ := h
            obtain ⟨p1, pos1, rfl, hg2⟩ := isSetCall_some hset
            exact l_lenSet ok hg hg2 hx (IH.e _ _ _ _ _ _ ok hx)
          · cases h
        · split at h
          · rename_i b hrg
            obtain ⟨p1, pos1, rfl, hg2⟩ := rangeArgs_some hrg
            split at h
            · cases h
            rename_i hcm
            simp only [Bool.not_eq_true', Bool.not_eq_false] at hcm
            subst hcm
            split at h
            · rename_i c
              simp only [beq_iff_eq] at c
              subst c
              simp only [Option.map_eq_some_iff] at h
              obtain ⟨x, hx, rfl⟩ := h
              refine PE.imp (pe_listRg ok.cal (gl_of ok.sc hg) (blt_of ok (by decide)) (prg1 ok hg2 hx (IH.e _ _ _ _ _ _ ok hx)) rfl) fun σ H Q q => (bi1 q).mono fun v H' s ⟨A, d, tr, hr, q⟩ => ?_
              cases hr with
              | int j =>
                obtain ⟨c, q⟩ := q.ite
                obtain ⟨c1, c2⟩ := rg_ok c
                exact ⟨j, rfl, c1, fun t ht => q.of _ _ (same_upd ht) (Rp.newL tr ht c2 (rgV_rp 0 j))⟩
              | _ => exact q.st
            · split at h
              · rename_i c
                simp only [beq_iff_eq] at c
                subst c
                simp only [Option.map_eq_some_iff] at h
                obtain ⟨x, hx, rfl⟩ := h
                refine PE.imp (pe_tupRg ok.cal (gl_of ok.sc hg) (blt_of ok (by decide)) (prg1 ok hg2 hx (IH.e _ _ _ _ _ _ ok hx)) rfl) fun σ H Q q => (bi1 q).mono fun v H' s ⟨A, d, tr, hr, q⟩ => ?_
                cases hr with
                | int j =>
                  obtain ⟨c, q⟩ := q.ite
                  obtain ⟨c1, c2⟩ := rg_ok c
                  exact ⟨j, rfl, c1, fun t ht => q.of _ _ (same_upd ht) (Rp.newT tr ht c2 (rgV_rp 0 j))⟩
                | _ => exact q.st
              · cases h
          · rename_i b c0 hrg
            obtain ⟨p1, pos1, rfl, hg2⟩ := rangeArgs_some hrg
            split at h
            · cases h
            rename_i hcm
            simp only [Bool.not_eq_true', Bool.not_eq_false] at hcm
            subst hcm
            simp only [Option.bind_eq_some_iff] at h
            obtain ⟨x, hx, y, hy, h⟩ := h
            split at h
            · rename_i c
              simp only [beq_iff_eq] at c
              subst c
              cases h
              refine PE.imp (pe_listRg ok.cal (gl_of ok.sc hg) (blt_of ok (by decide)) (prg2 ok hg2 hx (IH.e _ _ _ _ _ _ ok hx) hy (IH.e _ _ _ _ _ _ ok hy)) rfl) fun σ H Q q => (bi2 q).mono fun v H' s q2 => q2.mono fun u H2 s2 ⟨A, d, e, tr, hr, he, q⟩ => ?_
              cases hr with
              | int i => cases he with
                | int j =>
                  obtain ⟨c, q⟩ := q.ite
                  obtain ⟨c1, c2⟩ := rg_ok c
                  exact ⟨i, j, rfl, rfl, c1, fun t ht => q.of _ _ (same_upd ht) (Rp.newL tr ht c2 (rgV_rp i j))⟩
                | _ => exact q.st
              | _ => cases he <;> exact q.st
            · split at h
              · rename_i c
                simp only [beq_iff_eq] at c
                subst c
                cases h
                refine PE.imp (pe_tupRg ok.cal (gl_of ok.sc hg) (blt_of ok (by decide)) (prg2 ok hg2 hx (IH.e _ _ _ _ _ _ ok hx) hy (IH.e _ _ _ _ _ _ ok hy)) rfl) fun σ H Q q => (bi2 q).mono fun v H' s q2 => q2.mono fun u H2 s2 ⟨A, d, e, tr, hr, he, q⟩ => ?_
                cases hr with
                | int i => cases he with
                  | int j =>
                    obtain ⟨c, q⟩ := q.ite
                    obtain ⟨c1, c2⟩ := rg_ok c
                    exact ⟨i, j, rfl, rfl, c1, fun t ht => q.of _ _ (same_upd ht) (Rp.newT tr ht c2 (rgV_rp i j))⟩
                  | _ => exact q.st
                | _ => cases he <;> exact q.st
              · cases h
          · cases h
          · split at h
            · rename_i b hb
              split at h
              · rename_i c
                subst c
                simp only [Option.map_eq_some_iff] at h
                obtain ⟨x, hx, rfl⟩ := h
                exact l_bi ok hg hb hx (IH.e _ _ _ _ _ _ ok hx)
              · cases h
            · split at h
              · rename_i b hb
                simp only [Option.map_eq_some_iff] at h
                obtain ⟨x, hx, rfl⟩ := h
                exact l_ty ok hg hb hx (IH.e _ _ _ _ _ _ ok hx)
              · cases h
      · split at h
        · rename_i c
          simp only [beq_iff_eq] at c
          subst c
          split at h
          · rename_i b hk
            simp only [Option.map_eq_some_iff] at h
            obtain ⟨x, hx, rfl⟩ := h
            obtain ⟨y, py, rfl, hgy, hy⟩ := kindB_some hk
            have ha := IH.e _ _ _ _ _ _ ok hx
            have go : ∀ (hb : b = .isInt ∨ b = .isStr ∨ b = .isBool ∨ b = .isTup) (hm : X.mg y = none) (hv : bootBuiltins y = some (.type (kTy b))) (hn : y ≠ "__name__") (hdy : (y == ("__debug__" : Str)) = false), PE X (.Call (.Name "isinstance" p0) [_, .Name y py] [] pos) (tE p (.bi b (.cons x .nil))) := fun hb hm hv hn hdy =>
              PE.imp (pe_callB (isi_D hb) (gl_of ok.sc hg) (blt_of ok (by decide)) PyProof.Rows.boot_isinstance (pa_cons ha (pa_cons (pe_bltn (v := .ty (kTy b)) (gl_of ok.sc hgy) hm hv rfl hn hdy) pa_nil rfl) (star_of hx [.Name y py] X.env)) (by decide) (by decide) (star_of hx [.Name y py] X.env) rfl) fun σ H Q q => (bi1 q).mono fun v H' s ⟨A, d, tr, hr, q⟩ => ⟨A, d, v, rfl, tr, hr, q⟩
            rcases hy with ⟨rfl, rfl⟩ | ⟨rfl, rfl⟩ | ⟨rfl, rfl⟩ | ⟨rfl, rfl⟩
            · exact go (.inl rfl) (blt_of ok (by decide)) PyProof.Rows.boot_int (by decide) (by decide)
            · exact go (.inr (.inl rfl)) (blt_of ok (by decide)) PyProof.Rows.boot_str (by decide) (by decide)
            · exact go (.inr (.inr (.inl rfl))) (blt_of ok (by decide)) (by decide +kernel) (by decide) (by decide)
            · exact go (.inr (.inr (.inr rfl))) (blt_of ok (by decide)) PyProof.Rows.boot_tuple (by decide) (by decide)
          · simp only [Option.map_eq_some_iff] at h
            obtain ⟨⟨i, c⟩, hc, rfl⟩ := h
            exact l_isx (f := "isinstance") ok hg hc
        · split at h
          · rename_i b hb
            split at h
            · rename_i c
              subst c
              simp only [Option.bind_eq_some_iff, Option.map_eq_some_iff] at h
              obtain ⟨x, hx, y, hy, rfl⟩ := h
              have ha := IH.e _ _ _ _ _ _ ok hx
              have hbb := IH.e _ _ _ _ _ _ ok hy
              rcases biOf_two hb with ⟨rfl, rfl⟩ | ⟨rfl, rfl⟩
              · exact l_bi2 ok hg (by decide) PyProof.Rows.boot_min (by decide) (by decide) (c_min2 ok.cal) hx hy ha hbb
              · exact l_bi2 ok hg (by decide) PyProof.Rows.boot_max (by decide) (by decide) (c_max2 ok.cal) hx hy ha hbb
            · cases h
          · cases h
      · cases h
  · rename_i o m ap a pos
    split at h
    · cases h
    rename_i hl
    simp only [Bool.not_eq_true', Bool.not_eq_false] at hl
    split at h
    · rename_i ys ht
      simp only [Option.map_eq_some_iff] at h
      obtain ⟨y, hy, rfl⟩ := h
      exact l_tix ht hl hy (IH.e _ _ _ _ _ _ ok hy)
    simp only [Option.bind_eq_some_iff, Option.map_eq_some_iff] at h
    obtain ⟨q, hm, x, hx, y, hy, rfl⟩ := h
    exact l_mth ok hm hl hx hy (IH.e _ _ _ _ _ _ ok hx) (IH.e _ _ _ _ _ _ ok hy)
  · rename_i elt t it ifs scope pos
    split at h
    · cases h
    rename_i hb
    simp only [Bool.or_eq_true, not_or, Bool.not_eq_true', Bool.not_eq_false] at hb
    obtain ⟨rfl, hb⟩ := hb
    simp only [Option.bind_eq_some_iff] at h
    obtain ⟨i, hi, tt, htt, h⟩ := h
    split at h
    · cases h
    rename_i hids
    simp only [Bool.not_eq_true', Bool.not_eq_false] at hids
    simp only [Option.bind_eq_some_iff, Option.map_eq_some_iff] at h
    obtain ⟨c, hc, x, hx, rfl⟩ := h
    exact l_lc ok hb (IH.i _ _ _ _ _ _ _ ok hi) htt hids (fold_of hi X.env) (fun X' ok' => IH.f _ _ _ _ _ _ ok' hc) (fun X' ok' => IH.e _ _ _ _ _ _ ok' hx)
  · cases h
end PC

set_option Elab.async false
set_option linter.all false
/-! PC10: expressions, all fuels. -/
namespace PC
open PySem PySem.Spec PyProof.Rows L2
theorem toB_and {Φ : Phi} {x y : E} {env : Env} : toB (evE Φ (.and x y) env) = (toB (evE Φ x env)).bind fun c => if c then toB (evE Φ y env) else .ok false := by
  simp only [evE]
  cases toB (evE Φ x env) with
  | ok c => cases c with
    | true =>
      show toB ((toB (evE Φ y env)).bind _) = toB (evE Φ y env)
      cases toB (evE Φ y env) <;> rfl
    | false => rfl
  | ex c => rfl
  | st => rfl
theorem toB_or {Φ : Phi} {x y : E} {env : Env} : toB (evE Φ (.or x y) env) = (toB (evE Φ x env)).bind fun c => if c then .ok true else toB (evE Φ y env) := by
  simp only [evE]
  cases toB (evE Φ x env) with
  | ok c => cases c with
    | false =>
      show toB ((toB (evE Φ y env)).bind _) = toB (evE Φ y env)
      cases toB (evE Φ y env) <;> rfl
    | true => rfl
  | ex c => rfl
  | st => rfl
theorem snd_t {g : G} {k n : Nat} (IH : Snd g k n) : ∀ cm sc e ir X p, OkX g k cm sc X p → cE g (n + 1) cm sc e = some ir → PT X e (tT p ir) := by
  intro cm sc e ir X p ok h
  have hv : (∀ whole, isTrue e X.env whole = (do let v ← whole; standAt e.pos; holding [v] (truthy v))) → PT X e (tT p ir) := fun he => PT.imp (pt_val (snd_e IH _ _ _ _ _ _ ok h) he) fun σ H Q q => tT_tE q
  cases e with
  | UnaryOp o a pos =>
    cases o with
    | Not =>
      simp only [cE, Option.map_eq_some_iff] at h
      obtain ⟨x, hx, rfl⟩ := h
      refine PT.imp (pt_not (IH.t _ _ _ _ _ _ ok hx)) fun σ H Q q => ?_
      obtain ⟨A, env, pre, q⟩ := q
      refine ⟨A, env, pre, ?_⟩
      simp only [evE] at q
      cases e : toB (evE p.Φ x env) with
      | ok b => rw [e] at q; exact q
      | ex c => rw [e] at q; exact q
      | st => rw [e] at q; exact q
    | _ => exact hv fun _ => rfl
  | BoolOp o l pos =>
    cases l with
    | nil => cases o <;> simp [cE] at h
    | cons a r => cases o with
      | And => exact ((IH.an _ _ _ _ _ _ _ _ ok (by simpa only [cE] using h)).2).pt
      | Or => exact ((IH.or _ _ _ _ _ _ _ _ ok (by simpa only [cE] using h)).2).pt
  | Compare a ops cs pos =>
    unfold cE at h
    split at h
    all_goals try (rename_i e; cases e; done)
    · rename_i e
      cases e
      simp only [Option.map_eq_some_iff] at h
      obtain ⟨x, hx, rfl⟩ := h
      exact (l_isN (IH.e _ _ _ _ _ _ ok hx)).2
    · rename_i e
      cases e
      simp only [Option.map_eq_some_iff] at h
      obtain ⟨x, hx, rfl⟩ := h
      exact (l_notN (IH.e _ _ _ _ _ _ ok hx)).2
    · rename_i e
      cases e
      split at h
      · rename_i neg l hcst
        simp only [Option.map_eq_some_iff] at h
        obtain ⟨x, hx, rfl⟩ := h
        exact (l_cst ok hcst (IH.e _ _ _ _ _ _ ok hx)).2
      · simp only [Option.bind_eq_some_iff, Option.map_eq_some_iff] at h
        obtain ⟨x, hx, r, hr, rfl⟩ := h
        obtain ⟨g1, g2, g3⟩ := IH.c _ _ _ _ _ _ _ ok hr
        refine ⟨fun pins s σ H Q I q => ?_⟩
        show wpAny _ _ (do testChain pos (← eval a X.env) ops (markedEach ops cs (evalEach cs X.env))) _ _ s
        rw [markedEach_of_false _ _ _ g1]
        obtain ⟨A, env, pre, q⟩ := q
        simp only [evE] at q
        have pre' : Pre p (x.vars ++ r.vars) A env σ H := pre
        have q := q.toB.bind
        refine wpAny_bind (thn ((IH.e _ _ _ _ _ _ ok hx).run pins s σ H (fun v H1 => tChT p r v σ H1 Q) I ⟨A, env, pre'.left, q.mono fun d H1 s1 q2 v hv => ⟨A, env, d, (pre'.same s1).right, hv, ?_⟩⟩) fun v s1 ⟨y, H1, I1, r1, q1⟩ => g3 pos pins s1 σ H1 y v Q I1 r1 q1)
        cases e : evC p.Φ r d env with
        | ok e2 =>
          rw [e] at q2
          obtain ⟨b, rfl, q3⟩ := q2.here
          exact fun H2 s2 => by
            obtain ⟨b', e', q4⟩ := q2 H2 s2
            cases e'
            exact q4
        | ex c => rw [e] at q2; exact q2
        | st => rw [e] at q2; exact q2
    · cases h
  | IfExp a b c pos => simp [cE] at h
  | _ => exact hv fun _ => rfl
theorem snd_an {g : G} {k n : Nat} (IH : Snd g k n) : ∀ cm sc a r pos ir X p, OkX g k cm sc X p → cAnd g (n + 1) cm sc a r = some ir → PE X (.BoolOp .And (a :: r) pos) (tE p ir) ∧ PW X (.BoolOp .And (a :: r) pos) (tT p ir) := by
  intro cm sc a r pos ir X p ok h
  cases r with
  | nil =>
    simp only [cAnd] at h
    exact ⟨pe_one (IH.e _ _ _ _ _ _ ok h), pw_and1 (IH.t _ _ _ _ _ _ ok h)⟩
  | cons b r =>
    simp only [cAnd, Option.bind_eq_some_iff, Option.map_eq_some_iff] at h
    obtain ⟨x, hx, y, hy, rfl⟩ := h
    obtain ⟨h1, h2⟩ := IH.an _ _ _ _ pos _ _ _ ok hy
    refine ⟨PE.imp (pe_and (IH.e _ _ _ _ _ _ ok hx) h1) fun σ H Q q => ?_, PW.imp (pw_and (IH.t _ _ _ _ _ _ ok hx) h2) fun σ H Q q => ?_⟩
    · obtain ⟨A, env, pre, q⟩ := q
      simp only [evE] at q
      have pre' : Pre p (x.vars ++ y.vars) A env σ H := pre
      refine ⟨A, env, pre'.left, q.bind.toB.mono fun d H1 s q v hv => ?_⟩
      obtain ⟨b, rfl, q⟩ := q
      cases hv
      refine ⟨b, rfl, ?_⟩
      cases b with
      | false => exact q.here _ (.bl _)
      | true =>
        have q : After p σ H1 ((toB (evE p.Φ y env)).bind fun e => .ok (.bool e)) (kD A Q) := q
        exact ⟨A, env, (pre'.same s).right, q.bind.toB.mono fun d H2 s2 ⟨b, e, q⟩ => by subst e; exact q.here⟩
    · obtain ⟨A, env, pre, q⟩ := q
      have pre' : Pre p (x.vars ++ y.vars) A env σ H := pre
      rw [toB_and] at q
      refine ⟨A, env, pre'.left, q.bind.mono fun c H1 s q => ?_⟩
      cases c with
      | true => exact ⟨A, env, (pre'.same s).right, q⟩
      | false => exact q.here
theorem snd_or {g : G} {k n : Nat} (IH : Snd g k n) : ∀ cm sc a r pos ir X p, OkX g k cm sc X p → cOr g (n + 1) cm sc a r = some ir → PE X (.BoolOp .Or (a :: r) pos) (tE p ir) ∧ PW X (.BoolOp .Or (a :: r) pos) (tT p ir) := by
  intro cm sc a r pos ir X p ok h
  cases r with
  | nil =>
    simp only [cOr] at h
    exact ⟨pe_one (IH.e _ _ _ _ _ _ ok h), pw_or1 (IH.t _ _ _ _ _ _ ok h)⟩
  | cons b r =>
    simp only [cOr, Option.bind_eq_some_iff, Option.map_eq_some_iff] at h
    obtain ⟨x, hx, y, hy, rfl⟩ := h
    obtain ⟨h1, h2⟩ := IH.or _ _ _ _ pos _ _ _ ok hy
    refine ⟨PE.imp (pe_or (IH.e _ _ _ _ _ _ ok hx) h1) fun σ H Q q => ?_, PW.imp (pw_or (IH.t _ _ _ _ _ _ ok hx) h2) fun σ H Q q => ?_⟩
    · obtain ⟨A, env, pre, q⟩ := q
      simp only [evE] at q
      have pre' : Pre p (x.vars ++ y.vars) A env σ H := pre
      refine ⟨A, env, pre'.left, q.bind.toB.mono fun d H1 s q v hv => ?_⟩
      obtain ⟨b, rfl, q⟩ := q
      cases hv
      refine ⟨b, rfl, ?_⟩
      cases b with
      | true => exact q.here _ (.bl _)
      | false =>
        have q : After p σ H1 ((toB (evE p.Φ y env)).bind fun e => .ok (.bool e)) (kD A Q) := q
        exact ⟨A, env, (pre'.same s).right, q.bind.toB.mono fun d H2 s2 ⟨b, e, q⟩ => by subst e; exact q.here⟩
    · obtain ⟨A, env, pre, q⟩ := q
      have pre' : Pre p (x.vars ++ y.vars) A env σ H := pre
      rw [toB_or] at q
      refine ⟨A, env, pre'.left, q.bind.mono fun c H1 s q => ?_⟩
      cases c with
      | false => exact ⟨A, env, (pre'.same s).right, q⟩
      | true => exact q.here
theorem snd {g : G} {k : Nat} : ∀ n, Snd g k n
  | 0 => ⟨fun _ _ _ _ _ _ _ h => by simp [cE] at h, fun _ _ _ _ _ _ _ h => by simp [cE] at h, fun _ _ _ _ _ _ _ _ _ h => by simp [cAnd] at h, fun _ _ _ _ _ _ _ _ _ h => by simp [cOr] at h, fun _ _ _ _ _ _ _ h => by simp [cEs] at h,
    fun _ _ _ _ _ _ _ _ h => by simp [cC] at h, fun _ _ _ _ _ _ _ h => by simp [cO] at h, fun _ _ _ _ _ _ _ h => by simp [cF] at h, fun _ _ _ _ _ _ _ _ h => by simp [cI] at h⟩
  | n + 1 => ⟨snd_e (snd n), snd_t (snd n), snd_an (snd n), snd_or (snd n), snd_es (snd n), snd_c (snd n), snd_o (snd n), snd_f (snd n), snd_i (snd n)⟩
section
variable {g : G} {k n : Nat} {cm : Bool} {sc : Scope} {X : Cx} {p : Pm}
theorem l_lstF {es : List Expr} {x : Es} {pos : Pos} (c : es.length ≤ 1000) (hx : cEs g n cm sc es = some x) (ha : PA X es (tEs p x)) : PE X (.List es pos) (tEf p (.lst x)) := by
  refine PE.imp (pe_lst ha) fun σ H Q q => ?_
  obtain ⟨A, env, pre, q⟩ := q
  refine ⟨A, env, pre, ?_⟩
  simp only [evE] at q
  cases e : evs p.Φ x env with
  | ok l =>
    rw [e] at q
    have hl := evs_len hx e
    intro H' s vs hvs
    have hz : vs.length ≤ sizeLine := by rw [hvs.length, hl, sizeLine_eq]; omega
    exact ⟨hz, fun t ht => q (upd H' t (.lst vs)) (s.trans (same_upd ht)) _ (Rp.newL (pre.tr.same s) ht hz hvs) (topNew s ht hz hvs)⟩
  | ex c => rw [e] at q; exact q
  | st => rw [e] at q; exact q
def rListF : List V → Hp → VK → Prop := fun vs H Q => ∃ A a x l, vs = [x] ∧ Trk A H ∧ Rp A H x a ∧ evBi .list [a] = .ok (.list l) ∧ ∀ v H', Same H H' → Rp A H' v (.list l) → TopNew A H H' v (.list l) → Q v H'
theorem c_listF : CallR X (.type "list") rListF := by
  intro pins s σ H xs us Q I r h
  obtain ⟨A, a, x, l, rfl, tr, ha, he, hq⟩ := h
  cases ha with
  | lst n h z ra =>
    cases he
    exact call_list_of pins s σ H _ us Q I r ⟨_, _, rfl, .inl (.inl h), fun l hl => hq _ _ (same_upd hl) (Rp.newL tr hl z ra) (topNew (Same.refl H) hl z ra)⟩
  | tup n h z ra =>
    cases he
    exact call_list_of pins s σ H _ us Q I r ⟨_, _, rfl, .inr (.of h), fun l hl => hq _ _ (same_upd hl) (Rp.newL tr hl z ra) (topNew (Same.refl H) hl z ra)⟩
  | _ => cases he
theorem TopNew.back {A : Addr → Prop} {H H1 H' : Hp} {v : V} {d : D} (s : Same H H1) (h : TopNew A H1 H' v d) : TopNew A H H' v d := fun ds e => by
  obtain ⟨a, xs, e1, e2, e3⟩ := h ds e
  exact ⟨a, xs, e1, s.free e2, e3⟩
theorem bi1F {b : Bi} {x : E} {σ : L2.St} {H : Hp} {Q : VK} (q : tEf p (.bi b (.cons x .nil)) σ H Q) : tE p x σ H fun v H1 => ∃ A a r, Trk A H1 ∧ Rp A H1 v a ∧ evBi b [a] = .ok r ∧ ∀ u H', Same H1 H' → Rp A H' u r → TopNew A H1 H' u r → Q u H' := by
  obtain ⟨A, env, pre, q⟩ := q
  simp only [evE, evs] at q
  refine ⟨A, env, pre.left, ?_⟩
  cases e : evE p.Φ x env with
  | ok a =>
    rw [e] at q
    intro H1 s1 v hv
    have q : After p σ H (evBi b [a]) _ := q
    cases e2 : evBi b [a] with
    | ok r =>
      rw [e2] at q
      exact ⟨A, a, r, pre.tr.same s1, hv, e2, fun u H' s2 hu tn => q H' (s1.trans s2) u hu (tn.back s1)⟩
    | ex c => exact absurd e2 (evBi_nx c)
    | st => rw [e2] at q; exact q.elim
  | ex c => rw [e] at q; exact q
  | st => rw [e] at q; exact q
theorem bi2F {b : Bi} {x y : E} {σ : L2.St} {H : Hp} {Q : VK} (q : tEf p (.bi b (.cons x (.cons y .nil))) σ H Q) : tE p x σ H fun v H1 => tE p y σ H1 fun w H2 => ∃ A a c r, Trk A H2 ∧ Rp A H2 v a ∧ Rp A H2 w c ∧ evBi b [a, c] = .ok r ∧ ∀ u H', Same H2 H' → Rp A H' u r → TopNew A H2 H' u r → Q u H' := by
  obtain ⟨A, env, pre, q⟩ := q
  simp only [evE, evs] at q
  refine ⟨A, env, pre.left, ?_⟩
  cases e : evE p.Φ x env with
  | ok a =>
    rw [e] at q
    intro H1 s1 v hv
    refine ⟨A, env, (pre.right.left).same s1, ?_⟩
    cases e3 : evE p.Φ y env with
    | ok c =>
      rw [e3] at q
      intro H2 s2 w hw
      have q : After p σ H (evBi b [a, c]) _ := q
      cases e2 : evBi b [a, c] with
      | ok r =>
        rw [e2] at q
        exact ⟨A, a, c, r, pre.tr.same (s1.trans s2), Rp.same s2 _ _ hv, hw, e2, fun u H' s3 hu tn => q H' ((s1.trans s2).trans s3) u hu (tn.back (s1.trans s2))⟩
      | ex c => exact absurd e2 (evBi_nx c)
      | st => rw [e2] at q; exact q.elim
    | ex c =>
      rw [e3] at q
      exact fun H' s => q H' (s1.trans s)
    | st => rw [e3] at q; exact q
  | ex c => rw [e] at q; exact q
  | st => rw [e] at q; exact q
theorem l_fr (IH : Snd g k n) : ∀ cm sc e ir X p, OkX g k cm sc X p → cE g (n + 1) cm sc e = some ir → frE e = true → ir.fresh = true → PE X e (tEf p ir) := by
  intro cm sc e ir X p ok h hf hir
  unfold frE at hf
  split at hf
  · simp only [cE] at h
    split at h
    · rename_i c
      simp only [Option.map_eq_some_iff] at h
      obtain ⟨x, hx, rfl⟩ := h
      exact l_lstF c hx (IH.es _ _ _ _ _ _ ok hx)
    · cases h
  · unfold cE at h
    split at h
    all_goals try (rename_i e; cases e; done)
    · rename_i e
      cases e
      split at h
      · cases h
      rename_i hb
      simp only [Bool.or_eq_true, not_or, Bool.not_eq_true', Bool.not_eq_false] at hb
      obtain ⟨rfl, hb⟩ := hb
      simp only [Option.bind_eq_some_iff] at h
      obtain ⟨i, hi, tt, htt, h⟩ := h
      split at h
      · cases h
      rename_i hids
      simp only [Bool.not_eq_true', Bool.not_eq_false] at hids
      simp only [Option.bind_eq_some_iff, Option.map_eq_some_iff] at h
      obtain ⟨c, hc, x, hx, rfl⟩ := h
      exact l_lcF ok hb (IH.i _ _ _ _ _ _ _ ok hi) htt hids (fold_of hi X.env) (fun X' ok' => IH.f _ _ _ _ _ _ ok' hc) (fun X' ok' => IH.e _ _ _ _ _ _ ok' hx)
    · cases h
  · rename_i f p0 a pos
    simp only [cE] at h
    split at h
    · cases h
    rename_i hgd
    simp only [Bool.or_eq_true, not_or, Bool.not_eq_true', Bool.not_eq_false, Bool.not_eq_true] at hgd
    obtain ⟨hg, hd⟩ := hgd
    split at h
    · split at h
      · simp only [Option.map_eq_some_iff] at h
        obtain ⟨x, hx, rfl⟩ := h
        cases hir
      · cases h
    · split at h
      · split at h
        · simp only [Option.map_eq_some_iff] at h
          obtain ⟨x, hx, rfl⟩ := h
          cases hir
        · cases h
      · split at h
        · rename_i b hrg
          obtain ⟨p1, pos1, rfl, hg2⟩ := rangeArgs_some hrg
          split at h
          · cases h
          rename_i hcm
          simp only [Bool.not_eq_true', Bool.not_eq_false] at hcm
          subst hcm
          split at h
          · rename_i c
            simp only [beq_iff_eq] at c
            subst c
            simp only [Option.map_eq_some_iff] at h
            obtain ⟨x, hx, rfl⟩ := h
            refine PE.imp (pe_listRg ok.cal (gl_of ok.sc hg) (blt_of ok (by decide)) (prg1 ok hg2 hx (IH.e _ _ _ _ _ _ ok hx)) rfl) fun σ H Q q => (bi1F q).mono fun v H' s ⟨A, d, r, tr, hr, he, q⟩ => ?_
            cases hr with
            | int j =>
              simp only [evBi] at he
              split at he
              · rename_i c
                cases he
                obtain ⟨c1, c2⟩ := rg_ok c
                exact ⟨j, rfl, c1, fun t ht => q _ _ (same_upd ht) (Rp.newL tr ht c2 (rgV_rp 0 j)) (topNew (Same.refl _) ht c2 (rgV_rp 0 j))⟩
              · cases he
            | _ => simp [evBi] at he
          · split at h
            · simp only [Option.map_eq_some_iff] at h
              obtain ⟨x, hx, rfl⟩ := h
              cases hir
            · cases h
        · rename_i b c0 hrg
          obtain ⟨p1, pos1, rfl, hg2⟩ := rangeArgs_some hrg
          split at h
          · cases h
          rename_i hcm
          simp only [Bool.not_eq_true', Bool.not_eq_false] at hcm
          subst hcm
          simp only [Option.bind_eq_some_iff] at h
          obtain ⟨x, hx, y, hy, h⟩ := h
          split at h
          · rename_i c
            simp only [beq_iff_eq] at c
            subst c
            cases h
            refine PE.imp (pe_listRg ok.cal (gl_of ok.sc hg) (blt_of ok (by decide)) (prg2 ok hg2 hx (IH.e _ _ _ _ _ _ ok hx) hy (IH.e _ _ _ _ _ _ ok hy)) rfl) fun σ H Q q => (bi2F q).mono fun v H' s q2 => q2.mono fun u H2 s2 ⟨A, d, e, r, tr, hr, hr2, he, q⟩ => ?_
            cases hr with
            | int i => cases hr2 with
              | int j =>
                simp only [evBi] at he
                split at he
                · rename_i c
                  cases he
                  obtain ⟨c1, c2⟩ := rg_ok c
                  exact ⟨i, j, rfl, rfl, c1, fun t ht => q _ _ (same_upd ht) (Rp.newL tr ht c2 (rgV_rp i j)) (topNew (Same.refl _) ht c2 (rgV_rp i j))⟩
                · cases he
              | _ => simp [evBi] at he
            | _ => cases hr2 <;> simp [evBi] at he
          · split at h
            · cases h
              cases hir
            · cases h
        · cases h
        · split at h
          · rename_i b hb
            split at h
            · rename_i c
              subst c
              simp only [Option.map_eq_some_iff] at h
              obtain ⟨x, hx, rfl⟩ := h
              rcases biOf_one hb with ⟨rfl, rfl⟩ | ⟨rfl, rfl⟩ | ⟨rfl, rfl⟩ | ⟨rfl, rfl⟩ | ⟨rfl, rfl⟩ | ⟨rfl, rfl⟩ | ⟨rfl, rfl⟩ | ⟨rfl, rfl⟩ <;> cases hir
            · cases h
          · split at h
            · rename_i b hb
              simp only [Option.map_eq_some_iff] at h
              obtain ⟨x, hx, rfl⟩ := h
              rcases tyOf_one hb with ⟨rfl, rfl⟩ | ⟨rfl, rfl⟩ | ⟨rfl, rfl⟩ | ⟨rfl, rfl⟩
              · cases hir
              · cases hir
              · refine PE.imp (pe_callTy c_listF (gl_of ok.sc hg) (blt_of ok (by decide)) PyProof.Rows.boot_list (pa_cons (IH.e _ _ _ _ _ _ ok hx) pa_nil (star_of hx [] X.env)) (by decide) (by decide) (star_of hx [] X.env) rfl) fun σ H Q q => (bi1F q).mono fun v H' s ⟨A, d, r, tr, hr, he, q⟩ => ?_
                cases hr with
                | lst n h z ra =>
                  have he' := he
                  simp only [evBi] at he'
                  cases he'
                  exact ⟨A, _, _, _, rfl, tr, .lst n h z ra, he, q⟩
                | tup n h z ra =>
                  have he' := he
                  simp only [evBi] at he'
                  cases he'
                  exact ⟨A, _, _, _, rfl, tr, .tup n h z ra, he, q⟩
                | _ => simp [evBi] at he
              · cases hir
            · cases h
  · cases hf
end
end PC

set_option Elab.async false
set_option linter.all false
/-! PC11: the state between statements. -/
namespace PC
open PySem PySem.Spec PyProof.Rows L2
def Av (A : Addr → Prop) (env : Env) (ow : Nat → Addr) : Addr → Prop := fun a => A a ∨ ∃ i d, geti env i = .o d ∧ ow i = a
def AvS (A : Addr → Prop) (env : Env) (ow : Nat → Addr) (S : List Nat) : Addr → Prop := fun a => A a ∨ ∃ i d, geti env i = .o d ∧ i ∉ S ∧ ow i = a
structure SRo (p : Pm) (H0 : Hp) (A : Addr → Prop) (env : Env) (σ : L2.St) (H : Hp) (ow : Nat → Addr) : Prop where
  same : Same H0 H
  dom : ∀ a, A a → H0 a ≠ none
  len : σ.length = p.nl
  elen : env.length = p.nl
  own : ∀ i d, geti env i = .o d → σ[i]? = some (some (.ref (ow i))) ∧ H0 (ow i) = none ∧ ∃ xs ds, d = .list ds ∧ H (ow i) = some (.lst xs) ∧ xs.length ≤ sizeLine ∧ RpA (Av A env ow) H xs ds
  inj : ∀ i j d e, geti env i = .o d → geti env j = .o e → ow i = ow j → i = j
  frz : ∀ i d, geti env i = .f d → ∃ v, σ[i]? = some (some v) ∧ Rp (Av A env ow) H v d
  xs : XS p.sx env σ
def SR (p : Pm) (H0 : Hp) (A : Addr → Prop) (env : Env) (σ : L2.St) (H : Hp) : Prop := ∃ ow, SRo p H0 A env σ H ow
section
variable {p : Pm} {H0 H0' H H' : Hp} {A : Addr → Prop} {env : Env} {σ : L2.St} {ow : Nat → Addr} {i : Nat} {d : D} {v : V}
theorem SRo.tr (h : SRo p H0 A env σ H ow) (S : List Nat) : Trk (AvS A env ow S) H := fun a q => by
  rcases q with q | ⟨i, d, e, _, rfl⟩
  · exact (Trk.same h.dom h.same) a q
  · obtain ⟨_, _, xs, ds, _, e2, _⟩ := h.own i d e
    rw [e2]; simp
theorem SRo.trA (h : SRo p H0 A env σ H ow) : Trk (Av A env ow) H := fun a q => by
  rcases q with q | ⟨i, d, e, rfl⟩
  · exact (Trk.same h.dom h.same) a q
  · obtain ⟨_, _, xs, ds, _, e2, _⟩ := h.own i d e
    rw [e2]; simp
theorem avS_sub {S : List Nat} {a : Addr} (h : AvS A env ow S a) : Av A env ow a := by
  rcases h with h | ⟨i, d, e, _, q⟩
  · exact .inl h
  · exact .inr ⟨i, d, e, q⟩
theorem SRo.pre (h : SRo p H0 A env σ H ow) (S : List Nat) : Pre p S (AvS A env ow S) env σ H := by
  refine ⟨h.tr S, fun i hi d hd => ?_, h.xs, h.len⟩
  cases e : geti env i with
  | o d' =>
    rw [e] at hd
    cases hd
    obtain ⟨e1, e0, xs, ds, rfl, e2, z, r⟩ := h.own i _ e
    refine ⟨_, e1, .lst (fun q => ?_) (.inl e2) z (RpA.less (fun a q => avS_sub q) _ _ r)⟩
    rcases q with q | ⟨j, d2, e3, n, q⟩
    · exact h.dom _ q e0
    · exact n (by rw [h.inj j i _ _ e3 e q]; exact hi)
  | f d' =>
    rw [e] at hd
    cases hd
    obtain ⟨v, e1, r⟩ := h.frz i _ e
    exact ⟨v, e1, Rp.less (fun a q => avS_sub q) _ _ r⟩
  | u => rw [e] at hd; cases hd
  | x c => rw [e] at hd; cases hd
theorem SRo.sameH (h : SRo p H0 A env σ H ow) (s : Same H H') : SRo p H0 A env σ H' ow where
  same := h.same.trans s
  dom := h.dom
  len := h.len
  elen := h.elen
  own := fun i d e => by
    obtain ⟨e1, e0, xs, ds, e3, e2, z, r⟩ := h.own i d e
    exact ⟨e1, e0, xs, ds, e3, s _ _ e2, z, RpA.same s _ _ r⟩
  inj := h.inj
  frz := fun i d e => by
    obtain ⟨v, e1, r⟩ := h.frz i d e
    exact ⟨v, e1, Rp.same s _ _ r⟩
  xs := h.xs
theorem SR.sameH (h : SR p H0 A env σ H) (s : Same H H') : SR p H0 A env σ H' := h.imp fun _ h => h.sameH s
theorem geti_frzS (vs : List Nat) : ∀ (env : Env) (k i : Nat), geti (frzS vs k env) i = match geti env i with
    | .o d => if vs.contains (k + i) then .f d else .o d
    | s => s
  | [], k, i => by simp [frzS, geti]
  | s :: r, k, 0 => by cases s <;> simp [frzS, geti]
  | s :: r, k, i + 1 => by
    have e := geti_frzS vs r (k + 1) i
    have e2 : k + 1 + i = k + (i + 1) := by omega
    rw [e2] at e
    cases s <;> simpa [frzS, geti] using e
theorem frzS_length (vs : List Nat) : ∀ (env : Env) (k : Nat), (frzS vs k env).length = env.length
  | [], _ => rfl
  | s :: r, k => by cases s <;> simp [frzS, frzS_length vs r (k + 1)]
theorem frz_o {vs : List Nat} (h : geti (frzS vs 0 env) i = .o d) : geti env i = .o d ∧ i ∉ vs := by
  rw [geti_frzS] at h
  cases e : geti env i with
  | o d' =>
    rw [e] at h
    simp only [Nat.zero_add] at h
    split at h
    · cases h
    · rename_i c
      cases h
      exact ⟨rfl, by simpa using c⟩
  | _ => rw [e] at h; cases h
theorem frz_f {vs : List Nat} (h : geti (frzS vs 0 env) i = .f d) : geti env i = .f d ∨ (geti env i = .o d ∧ i ∈ vs) := by
  rw [geti_frzS] at h
  cases e : geti env i with
  | o d' =>
    rw [e] at h
    simp only [Nat.zero_add] at h
    split at h
    · rename_i c
      cases h
      exact .inr ⟨rfl, by simpa using c⟩
    · cases h
  | f d' => rw [e] at h; cases h; exact .inl rfl
  | _ => rw [e] at h; cases h
theorem frz_x {vs : List Nat} {c : Str} (h : geti (frzS vs 0 env) i = .x c) : geti env i = .x c := by
  rw [geti_frzS] at h
  cases e : geti env i with
  | o d' =>
    rw [e] at h
    simp only [Nat.zero_add] at h
    split at h <;> cases h
  | x d' => rw [e] at h; cases h; rfl
  | _ => rw [e] at h; cases h
theorem av_frz {vs : List Nat} {a : Addr} (h : Av A (frzS vs 0 env) ow a) : AvS A env ow vs a := by
  rcases h with h | ⟨i, d, e, q⟩
  · exact .inl h
  · obtain ⟨e1, e2⟩ := frz_o e
    exact .inr ⟨i, d, e1, e2, q⟩
theorem SRo.frzA (h : SRo p H0 A env σ H ow) (vs : List Nat) : SRo p H0 A (frzS vs 0 env) σ H ow where
  same := h.same
  dom := h.dom
  len := h.len
  elen := by rw [frzS_length]; exact h.elen
  own := fun i d e => by
    obtain ⟨e', _⟩ := frz_o e
    obtain ⟨e1, e0, xs, ds, e3, e2, z, r⟩ := h.own i d e'
    exact ⟨e1, e0, xs, ds, e3, e2, z, RpA.less (fun a q => avS_sub (av_frz q)) _ _ r⟩
  inj := fun i j d e h1 h2 q => h.inj i j d e (frz_o h1).1 (frz_o h2).1 q
  frz := fun i d e => by
    rcases frz_f e with e | ⟨e, hi⟩
    · obtain ⟨v, e1, r⟩ := h.frz i d e
      exact ⟨v, e1, Rp.less (fun a q => avS_sub (av_frz q)) _ _ r⟩
    · obtain ⟨v, e1, r⟩ := (h.pre vs).rr i hi d (by rw [e]; rfl)
      exact ⟨v, e1, Rp.less (fun a q => av_frz q) _ _ r⟩
  xs := fun i c e => h.xs i c (frz_x e)
theorem XS.set {sx : Option (Nat × Str × Addr)} {x : Sl} {w : Option V} (h : XS sx env σ) (hx : ∀ c, x ≠ .x c) : XS sx (sets env i x) (σ.set i w) := by
  intro j c e
  rw [geti_sets] at e
  by_cases c1 : i = j
  · subst c1
    by_cases c2 : i < env.length
    · simp only [c2, and_self, if_true] at e
      exact absurd e (hx c)
    · simp only [c2, and_false, if_false] at e
      rw [geti_out c2] at e; cases e
  · simp only [c1, false_and, if_false] at e
    rw [List.getElem?_set_ne c1]
    exact h j c e
/-- a store of a value that no owned list is part of -/
theorem SRo.setF (h : SRo p H0 A env σ H ow) (hi : i < p.nl) (r : Rp (Av A env ow) H v d) : SRo p H0 A (sets env i (.f d)) (σ.set i (some v)) H ow := by
  have hi' : i < env.length := by rw [h.elen]; exact hi
  have hs : i < σ.length := by rw [h.len]; exact hi
  have so : ∀ {j e}, geti (sets env i (.f d)) j = .o e → j ≠ i ∧ geti env j = .o e := fun {j e} q => by
    rw [geti_sets] at q
    by_cases c : i = j
    · subst c
      simp only [hi', and_self, if_true] at q
      cases q
    · simp only [c, false_and, if_false] at q
      exact ⟨fun z => c z.symm, q⟩
  have sub : ∀ a, Av A (sets env i (.f d)) ow a → Av A env ow a := fun a q => by
    rcases q with q | ⟨j, e, q, z⟩
    · exact .inl q
    · exact .inr ⟨j, e, (so q).2, z⟩
  refine ⟨h.same, h.dom, by rw [List.length_set]; exact h.len, by rw [sets_length]; exact h.elen, fun j e q => ?_, fun j k e e' q q' z => h.inj j k e e' (so q).2 (so q').2 z, fun j e q => ?_, h.xs.set fun c q => by cases q⟩
  · obtain ⟨n, q⟩ := so q
    obtain ⟨e1, e0, xs, ds, e3, e2, z, r⟩ := h.own j e q
    exact ⟨by rw [List.getElem?_set_ne (Ne.symm n)]; exact e1, e0, xs, ds, e3, e2, z, RpA.less sub _ _ r⟩
  · rw [geti_sets] at q
    by_cases c : i = j
    · subst c
      simp only [hi', and_self, if_true] at q
      cases q
      exact ⟨v, List.getElem?_set_self hs, Rp.less sub _ _ r⟩
    · simp only [c, false_and, if_false] at q
      obtain ⟨w, e1, r⟩ := h.frz j e q
      exact ⟨w, by rw [List.getElem?_set_ne c]; exact e1, Rp.less sub _ _ r⟩
/-- a store of a new list -/
theorem SRo.setO {a : Addr} {xs : List V} {ds : List D} (h : SRo p H0 A env σ H ow) (hi : i < p.nl) (s : Same H H') (n : H a = none) (e : H' a = some (.lst xs)) (z : xs.length ≤ sizeLine) (r : RpA (fun b => Av A env ow b ∨ b = a) H' xs ds) :
    SRo p H0 A (sets env i (.o (.list ds))) (σ.set i (some (.ref a))) H' (fun j => if j = i then a else ow j) := by
  have hi' : i < env.length := by rw [h.elen]; exact hi
  have hs : i < σ.length := by rw [h.len]; exact hi
  have gi : geti (sets env i (.o (.list ds))) i = .o (.list ds) := by simp [geti_sets, hi']
  have gn : ∀ {j}, j ≠ i → geti (sets env i (.o (.list ds))) j = geti env j := fun {j} c => by simp [geti_sets, Ne.symm c]
  have sub : ∀ b, Av A (sets env i (.o (.list ds))) (fun j => if j = i then a else ow j) b → Av A env ow b ∨ b = a := fun b q => by
    rcases q with q | ⟨j, e', q, z⟩
    · exact .inl (.inl q)
    · by_cases c : j = i
      · simp only [c, if_true] at z
        exact .inr z.symm
      · simp only [c, if_false] at z
        rw [gn c] at q
        exact .inl (.inr ⟨j, e', q, z⟩)
  have sub2 : ∀ b, Av A (sets env i (.o (.list ds))) (fun j => if j = i then a else ow j) b → Av A env ow b ∨ H b = none := fun b q => (sub b q).imp id fun e => by rw [e]; exact n
  have na : ∀ j e', geti env j = .o e' → ow j ≠ a := fun j e' q z => by
    obtain ⟨_, _, xs, ds, _, e2, _⟩ := h.own j e' q
    rw [z, n] at e2; cases e2
  refine ⟨h.same.trans s, h.dom, by rw [List.length_set]; exact h.len, by rw [sets_length]; exact h.elen, fun j e' q => ?_, fun j k e1 e2 q q' z => ?_, fun j e' q => ?_, h.xs.set fun c q => by cases q⟩
  · by_cases c : j = i
    · subst c
      rw [gi] at q
      cases q
      simp only [if_true]
      exact ⟨List.getElem?_set_self hs, h.same.free n, xs, ds, rfl, e, z, RpA.less sub _ _ r⟩
    · rw [gn c] at q
      simp only [c, if_false]
      obtain ⟨e1, e0, ys, es, e3, e2, z, r⟩ := h.own j e' q
      exact ⟨by rw [List.getElem?_set_ne (Ne.symm c)]; exact e1, e0, ys, es, e3, s _ _ e2, z, RpA.keep (Keep.of s) sub2 _ _ r⟩
  · by_cases c : j = i
    · by_cases c2 : k = i
      · rw [c, c2]
      · rw [gn c2] at q'
        simp only [c, c2, if_true, if_false] at z
        exact absurd z.symm (na k _ q')
    · rw [gn c] at q
      by_cases c2 : k = i
      · simp only [c, c2, if_true, if_false] at z
        exact absurd z (na j _ q)
      · rw [gn c2] at q'
        simp only [c, c2, if_false] at z
        exact h.inj j k _ _ q q' z
  · by_cases c : j = i
    · subst c
      rw [gi] at q
      cases q
    · rw [gn c] at q
      obtain ⟨w, e1, r⟩ := h.frz j e' q
      exact ⟨w, by rw [List.getElem?_set_ne (Ne.symm c)]; exact e1, Rp.keep (Keep.of s) sub2 _ _ r⟩
/-- an owned list changes -/
theorem SRo.mut {d0 : D} {xs : List V} {ds : List D} (h : SRo p H0 A env σ H ow) (g : geti env i = .o d0) (z : xs.length ≤ sizeLine) (r : RpA (Av A env ow) H xs ds) :
    SRo p H0 A (sets env i (.o (.list ds))) σ (upd H (ow i) (.lst xs)) ow := by
  have hi' : i < env.length := Decidable.byContradiction fun c => by rw [geti_out c] at g; cases g
  have gi : geti (sets env i (.o (.list ds))) i = .o (.list ds) := by simp [geti_sets, hi']
  have gn : ∀ {j}, j ≠ i → geti (sets env i (.o (.list ds))) j = geti env j := fun {j} c => by simp [geti_sets, Ne.symm c]
  have sub : ∀ b, Av A (sets env i (.o (.list ds))) ow b → Av A env ow b := fun b q => by
    rcases q with q | ⟨j, e', q, z⟩
    · exact .inl q
    · by_cases c : j = i
      · subst c
        exact .inr ⟨j, _, g, z⟩
      · rw [gn c] at q
        exact .inr ⟨j, e', q, z⟩
  obtain ⟨g1, g0, _⟩ := h.own i _ g
  have kp : Keep (Av A env ow) H (upd H (ow i) (.lst xs)) := fun b o e n => by
    rw [upd_ne (fun q => n (by rw [q]; exact .inr ⟨i, _, g, rfl⟩))]
    exact e
  have sub2 : ∀ b, Av A (sets env i (.o (.list ds))) ow b → Av A env ow b ∨ H b = none := fun b q => .inl (sub b q)
  refine ⟨fun b o e => ?_, h.dom, h.len, by rw [sets_length]; exact h.elen, fun j e' q => ?_, fun j k e1 e2 q q' z => ?_, fun j e' q => ?_, ?_⟩
  · rw [upd_ne (fun q => by rw [q, g0] at e; cases e)]
    exact h.same b o e
  · by_cases c : j = i
    · subst c
      rw [gi] at q
      cases q
      exact ⟨g1, g0, xs, ds, rfl, upd_same, z, RpA.keep kp sub2 _ _ r⟩
    · rw [gn c] at q
      obtain ⟨e1, e0, ys, es, e3, e2, z, r⟩ := h.own j e' q
      exact ⟨e1, e0, ys, es, e3, by rw [upd_ne (fun y => c (h.inj j i _ _ q g y))]; exact e2, z, RpA.keep kp sub2 _ _ r⟩
  · have go : ∀ j e, geti (sets env i (.o (.list ds))) j = .o e → ∃ e, geti env j = .o e := fun j e q => by
      by_cases c : j = i
      · subst c; exact ⟨_, g⟩
      · rw [gn c] at q; exact ⟨_, q⟩
    obtain ⟨_, q⟩ := go _ _ q
    obtain ⟨_, q'⟩ := go _ _ q'
    exact h.inj j k _ _ q q' z
  · by_cases c : j = i
    · subst c
      rw [gi] at q
      cases q
    · rw [gn c] at q
      obtain ⟨w, e1, r⟩ := h.frz j e' q
      exact ⟨w, e1, Rp.keep kp sub2 _ _ r⟩
  · intro j c e
    by_cases c1 : j = i
    · subst c1
      rw [gi] at e; cases e
    · rw [gn c1] at e
      exact h.xs j c e
/-- more is held fast -/
theorem SRo.back (h : SRo p H0' A env σ H ow) (s : Same H0 H0') (hd : ∀ a, A a → H0 a ≠ none) : SRo p H0 A env σ H ow :=
  ⟨s.trans h.same, hd, h.len, h.elen, fun i d e => by
    obtain ⟨e1, e0, r⟩ := h.own i d e
    exact ⟨e1, s.free e0, r⟩, h.inj, h.frz, h.xs⟩
/-- the heap without the owned lists -/
noncomputable def unOwn (env : Env) (ow : Nat → Addr) (H : Hp) : Hp := fun a => open Classical in if ∃ i d, geti env i = .o d ∧ ow i = a then none else H a
theorem SRo.fwd (h : SRo p H0 A env σ H ow) : Same H0 (unOwn env ow H) ∧ SRo p (unOwn env ow H) A env σ H ow := by
  have s1 : Same H0 (unOwn env ow H) := fun a o e => by
    unfold unOwn
    rw [if_neg (fun ⟨i, d, q, z⟩ => by
      obtain ⟨_, e0, _⟩ := h.own i d q
      rw [z, e] at e0; cases e0)]
    exact h.same a o e
  refine ⟨s1, fun a o e => ?_, fun a q z => h.dom a q (s1.free z), h.len, h.elen, fun i d e => ?_, h.inj, h.frz, h.xs⟩
  · unfold unOwn at e
    split at e
    · cases e
    · exact e
  · obtain ⟨e1, e0, r⟩ := h.own i d e
    refine ⟨e1, ?_, r⟩
    unfold unOwn
    rw [if_pos ⟨i, d, e, rfl⟩]
end
end PC

set_option Elab.async false
set_option linter.all false
/-! PC12: statements. -/
namespace PC
open PySem PySem.Spec PyProof.Rows L2
def Endo (p : Pm) (H0 : Hp) (A : Addr → Prop) (D : Ends) : Out → Prop
  | .nx env => ∀ σ H, SR p H0 A env σ H → D.nx σ H
  | .bk env => ∀ σ H, SR p H0 A env σ H → D.bk σ H
  | .rt d => ∀ v H, Same H0 H → Rp A H v d → D.rt v H
  | .ex c env => ∀ σ H, SR p H0 A env σ H → p.W (.ref (p.ec c)) none σ H
  | .st => False
def tS (p : Pm) (f : Env → Out) : TS := fun D σ H => ∃ H0 A env, SR p H0 A env σ H ∧ Endo p H0 A D (f env)
structure OkT (g : G) (k : Nat) (cm : Bool) (scp : Scope) (X : Cx) (p : Pm) : Prop extends OkX g k cm scp X p where
  hs : X.stack = X.env :: X.outer
  hf : X.env.frame = some X.env.locals
  st : StOk X scp
  po : PassesOwn (model X.prog X.w) X.A X.env X.xe
theorem PS.imp {X : Cx} {s : Stmt} {t t' : TS} (h : PS X s t) (i : ∀ D σ H, t' D σ H → t D σ H) : PS X s t' := ⟨fun pins s σ H D I q => h.run pins s σ H D I (i D σ H q)⟩
theorem PSs.imp {X : Cx} {s : List Stmt} {t t' : TS} (h : PSs X s t) (i : ∀ D σ H, t' D σ H → t D σ H) : PSs X s t' := ⟨fun pins s σ H D I q => h.run pins s σ H D I (i D σ H q)⟩
section
variable {p : Pm} {H0 H0' H H' : Hp} {A : Addr → Prop} {env : Env} {σ : L2.St} {ow : Nat → Addr} {i : Nat} {d : D} {v : V} {D : Ends}
theorem Endo.fwd {o : Out} (h : Endo p H0 A D o) (s : Same H0 H0') (hd : ∀ a, A a → H0 a ≠ none) : Endo p H0' A D o := by
  cases o with
  | nx env => exact fun σ H ⟨ow, q⟩ => h σ H ⟨ow, q.back s hd⟩
  | bk env => exact fun σ H ⟨ow, q⟩ => h σ H ⟨ow, q.back s hd⟩
  | rt d => exact fun v H s' r => h v H (s.trans s') r
  | ex c env => exact fun σ H ⟨ow, q⟩ => h σ H ⟨ow, q.back s hd⟩
  | st => exact h
theorem onR_use {α : Type} {r : R α} {k : α → Out} (h : SRo p H0 A env σ H ow) (q : Endo p H0 A D (onR r env k)) : After p σ H r fun a H1 => SRo p H0 A env σ H1 ow ∧ Endo p H0 A D (k a) := by
  cases r with
  | ok a => exact fun H1 s => ⟨h.sameH s, q⟩
  | ex c => exact fun H1 s => q σ H1 ⟨ow, h.sameH s⟩
  | st => exact q
/-- behind a value that may share the lists of vs -/
theorem SRo.shr (h : SRo p H0 A env σ H ow) (vs : List Nat) (r : Rp (AvS A env ow vs) H v d) : SRo p H0 A (PC.shr vs d env) σ H ow ∧ Rp (Av A (PC.shr vs d env) ow) H v d := by
  unfold PC.shr
  split
  · rename_i c
    refine ⟨h, Rp.flat (fun a q => ?_) d v c r⟩
    rcases q with q | ⟨j, e, q, z⟩
    · exact .inl (.inl q)
    · obtain ⟨_, _, xs, ds, _, e2, _⟩ := h.own j e q
      exact .inr ⟨xs, by rw [← z]; exact e2⟩
  · exact ⟨h.frzA vs, Rp.less (fun a q => av_frz q) _ _ r⟩
theorem SRo.shrA {xs : List V} {ds : List PyData} (h : SRo p H0 A env σ H ow) (vs : List Nat) (r : RpA (AvS A env ow vs) H xs ds) :
    SRo p H0 A (if flatAll ds then env else frzS vs 0 env) σ H ow ∧ RpA (Av A (if flatAll ds then env else frzS vs 0 env) ow) H xs ds := by
  split
  · rename_i c
    refine ⟨h, RpA.flat (fun a q => ?_) ds xs c r⟩
    rcases q with q | ⟨j, e, q, z⟩
    · exact .inl (.inl q)
    · obtain ⟨_, _, xs, ds, _, e2, _⟩ := h.own j e q
      exact .inr ⟨xs, by rw [← z]; exact e2⟩
  · exact ⟨h.frzA vs, RpA.less (fun a q => av_frz q) _ _ r⟩
theorem SRo.put {e : E} (h : SRo p H0 A env σ H ow) (hi : i < p.nl) (s : Same H H') (r : Rp (AvS A env ow e.vars) H' v d) (tn : e.fresh = true → TopNew (AvS A env ow e.vars) H H' v d) : SR p H0 A (putS e i d env) (σ.set i (some v)) H' := by
  unfold putS
  split
  · rename_i ds hf
    obtain ⟨a, xs, rfl, n, e1, z, ra⟩ := tn hf ds rfl
    split
    · rename_i c
      refine ⟨_, h.setO hi s n e1 z (RpA.flat (fun b q => ?_) ds xs c ra)⟩
      rcases q with (q | ⟨j, e, q, z⟩) | q
      · exact .inl (.inl (.inl q))
      · obtain ⟨_, _, xs, ds, _, e2, _⟩ := (h.sameH s).own j e q
        exact .inr ⟨xs, by rw [← z]; exact e2⟩
      · exact .inl (.inr q)
    · refine ⟨_, (h.frzA e.vars).setO hi s n e1 z (RpA.less (fun b q => ?_) _ _ ra)⟩
      rcases q with q | q
      · exact .inl (av_frz q)
      · exact .inr q
  · obtain ⟨h1, r1⟩ := (h.sameH s).shr e.vars r
    exact ⟨_, h1.setF hi r1⟩
theorem av_set {a : Addr} (h : Av A (sets env i (.f d)) ow a) : Av A env ow a := by
  rcases h with h | ⟨j, e, q, z⟩
  · exact .inl h
  · rw [geti_sets] at q
    split at q
    · cases q
    · exact .inr ⟨j, e, q, z⟩
theorem gNs_SR : ∀ {is : List Nat} {ds : List PyData} {vs : List V} {env env1 : Env} {σ : L2.St}, setsAll env is ds = some env1 → (∀ i ∈ is, i < p.nl) → RpA (Av A env ow) H vs ds → SRo p H0 A env σ H ow →
    gNs is vs σ H fun σ2 H2 => H2 = H ∧ SRo p H0 A env1 σ2 H ow
  | [], [], _, env, env1, σ, h, _, .nil, r => by
    cases h
    exact ⟨rfl, rfl, r⟩
  | i :: is, d :: ds, _, env, env1, σ, h, hi, .cons (v := v) hv hvs, r => by
    have h : setsAll (sets env i (.f d)) is ds = some env1 := h
    have r2 := r.setF (hi i List.mem_cons_self) hv
    exact ⟨v, _, rfl, gNs_SR (σ := σ.set i (some v)) h (fun j hj => hi j (List.mem_cons_of_mem _ hj)) (RpA.less (fun a q => av_set q) _ _ hvs) r2⟩
  | [], _ :: _, _, _, _, _, h, _, _, _ => by simp [setsAll] at h
  | _ :: _, [], _, _, _, _, h, _, _, _ => by simp [setsAll] at h
theorem gT_SR {K : PySem.W.Frag} {tt : T} {env1 : Env} (h : asgT tt d env = some env1) (hi : ∀ i ∈ tt.ids, i < p.nl) (hv : Rp (Av A env ow) H v d) (r : SRo p H0 A env σ H ow) :
    gT K tt v σ H fun σ2 H2 => H2 = H ∧ SRo p H0 A env1 σ2 H ow := by
  cases tt with
  | n i =>
    cases h
    exact ⟨rfl, r.setF (hi i (by simp [T.ids])) hv⟩
  | t is =>
    cases hv with
    | @tup a xs ds n ht z ra =>
      have h : setsAll env is ds = some env1 := h
      have hl : xs.length = is.length := by
        rw [ra.length]
        exact setsAll_len h
      exact ⟨a, xs, rfl, .of ht, hl, gNs_SR h hi ra r⟩
    | _ => cases h
end
/-! ### the statements -/
section
variable {g : G} {k n fu : Nat} {cm : Bool} {sc : Scope} {X : Cx} {p : Pm} {pos : Pos}
theorem s_ret {e : Expr} {x : E} (he : PE X e (tE p x)) : PS X (.Return (some e) pos) (tS p (evS p.Φ fu (.ret x))) := PS.imp (ps_ret he) fun D σ H ⟨H0, A, env, ⟨ow, h⟩, q⟩ => by
  simp only [evS] at q
  exact ⟨_, env, h.pre _, (onR_use h q).mono fun d H1 s ⟨h1, q⟩ v hv => q v H1 h1.same (Rp.less (fun a z => .inl z) _ _ hv)⟩
theorem s_retN : PS X (.Return none pos) (tS p (evS p.Φ fu .retN)) := PS.imp ps_retN fun D σ H ⟨H0, A, env, ⟨ow, h⟩, q⟩ => by
  simp only [evS] at q
  exact q .non H h.same .non
theorem s_brk : PS X (.Break pos) (tS p (evS p.Φ fu .brk)) := PS.imp ps_break fun D σ H ⟨H0, A, env, h, q⟩ => by
  simp only [evS] at q
  exact q σ H h
theorem s_pas : PS X (.Pass pos) (tS p (evS p.Φ fu .pas)) := PS.imp ps_pass fun D σ H ⟨H0, A, env, h, q⟩ => by
  simp only [evS] at q
  exact q σ H h
theorem s_if {c : Expr} {a b : List Stmt} {x : E} {y z : List S} (hc : PT X c (tT p x)) (ha : PSs X a (tS p (evSs p.Φ fu y))) (hb : PSs X b (tS p (evSs p.Φ fu z))) : PS X (.If c a b pos) (tS p (evS p.Φ fu (.ite x y z))) :=
  PS.imp (ps_if hc ha hb) fun D σ H ⟨H0, A, env, ⟨ow, h⟩, q⟩ => by
    simp only [evS] at q
    refine ⟨_, env, h.pre _, (onR_use h q).mono fun k H1 s ⟨h1, q⟩ => ?_⟩
    cases k with
    | true => exact ⟨H0, A, env, ⟨ow, h1⟩, q⟩
    | false => exact ⟨H0, A, env, ⟨ow, h1⟩, q⟩
theorem s_while {c : Expr} {b : List Stmt} {x : E} {y : List S} (po : PassesOwn (model X.prog X.w) X.A X.env X.xe) (hc : PT X c (tT p x)) (hb : PSs X b (tS p (evSs p.Φ fu y))) : PS X (.While c b [] pos) (tS p (evS p.Φ fu (.whl x y))) :=
  PS.imp (ps_while po hc hb) fun D σ H ⟨H0, A, env, h, q⟩ => by
    simp only [evS] at q
    refine ⟨fun m σ H => ∃ env, SR p H0 A env σ H ∧ Endo p H0 A D (evWhl (fun env => toB (evE p.Φ x env)) (evSs p.Φ fu y) m env), ⟨fu, env, h, q⟩, ?_⟩
    rintro m σ H ⟨env, ⟨ow, h⟩, q⟩
    cases m with
    | zero => exact q.elim
    | succ m =>
      refine ⟨_, env, h.pre _, ?_⟩
      unfold evWhl at q
      cases e : toB (evE p.Φ x env) with
      | ok b =>
        rw [e] at q
        intro H1 s1
        cases b with
        | false => exact q σ H1 ⟨ow, h.sameH s1⟩
        | true =>
          refine ⟨fun σ' H' => ∃ env, SR p H0 A env σ' H' ∧ Endo p H0 A D (evWhl (fun env => toB (evE p.Φ x env)) (evSs p.Φ fu y) m env), fun σ' H' z => ⟨m, Nat.lt_succ_self m, z⟩, H0, A, env, ⟨ow, h.sameH s1⟩, ?_⟩
          have q : Endo p H0 A D (match evSs p.Φ fu y env with
            | .nx env2 => evWhl (fun env => toB (evE p.Φ x env)) (evSs p.Φ fu y) m env2
            | .bk env2 => .nx env2
            | o => o) := q
          cases e2 : evSs p.Φ fu y env with
          | nx env2 => rw [e2] at q; exact fun σ' H' h' => ⟨env2, h', q⟩
          | bk env2 => rw [e2] at q; exact q
          | rt d => rw [e2] at q; exact q
          | ex c2 env2 => rw [e2] at q; exact q
          | st => rw [e2] at q; exact q
      | ex c2 =>
        rw [e] at q
        exact fun H1 s1 => q σ H1 ⟨ow, h.sameH s1⟩
      | st => rw [e] at q; exact q
theorem s_nil : PSs X [] (tS p (evSs p.Φ fu [])) := PSs.imp pss_nil fun D σ H ⟨H0, A, env, h, q⟩ => by
  simp only [evSs] at q
  exact q σ H h
theorem s_cons {s : Stmt} {r : List Stmt} {y : S} {z : List S} (h1 : PS X s (tS p (evS p.Φ fu y))) (h2 : PSs X r (tS p (evSs p.Φ fu z))) : PSs X (s :: r) (tS p (evSs p.Φ fu (y :: z))) :=
  PSs.imp (pss_cons h1 h2) fun D σ H ⟨H0, A, env, h, q⟩ => by
    simp only [evSs] at q
    refine ⟨H0, A, env, h, ?_⟩
    cases e : evS p.Φ fu y env with
    | nx env2 => rw [e] at q; exact fun σ' H' h' => ⟨H0, A, env2, h', q⟩
    | bk env2 => rw [e] at q; exact q
    | rt d => rw [e] at q; exact q
    | ex c2 env2 => rw [e] at q; exact q
    | st => rw [e] at q; exact q
theorem s_for {t it : Expr} {b : List Stmt} {tt : T} {i : I} {y : List S} (po : PassesOwn (model X.prog X.w) X.A X.env X.xe) (hc : X.calm = true) (hi : PI X t it (tI p i)) (hg : PG X t (gT X.K tt)) (hl : ∀ i ∈ tt.ids, i < p.nl) (hfold : ∀ y, foldedSetIterable it X.env y = pure y)
    (hb : PSs X b (tS p (evSs p.Φ fu y))) : PS X (.For t it b [] pos) (tS p (evS p.Φ fu (.for_ tt i y))) :=
  PS.imp (ps_for po hc hi hg hb hfold) fun D σ H ⟨H0, A, env, ⟨ow, h⟩, q⟩ => by
    simp only [evS] at q
    refine ⟨_, env, h.pre i.vars, (onR_use h q).mono fun ds H1 s1 ⟨h1, q⟩ J runs hz => ?_⟩
    have key : ∃ env2, frzI i ds env = env2 ∧ SRo p H0 A env2 σ H1 ow ∧ (∀ a, Av A env2 ow a → AI i (AvS A env ow i.vars) a) := by
      cases i with
      | e x => exact ⟨_, rfl, h1.frzA _, fun a z => av_frz z⟩
      | en x => exact ⟨_, rfl, h1.frzA _, fun a z => av_frz z⟩
      | _ => exact ⟨_, rfl, h1, fun a z => trivial⟩
    obtain ⟨env2, e2, h2, hav⟩ := key
    rw [e2] at q
    obtain ⟨s2, h3⟩ := h2.fwd
    have hd : ∀ a, A a → H0 a ≠ none := h2.dom
    generalize hU : unOwn env2 ow H1 = H0' at s2 h3
    have q := q.fwd s2 hd
    -- what the body leaves alone
    have keep : ∀ {env' : Env} {σ H} {ow' : Nat → Addr}, SRo p H0' A env' σ H ow' → Keep (Av A env2 ow) H1 H := fun h a o e n => h.same a o (by
      rw [← hU]
      unfold unOwn
      rw [if_neg (fun z => n (.inr z))]
      exact e)
    have keep' : ∀ {env' : Env} {σ H} {ow' : Nat → Addr}, SRo p H0' A env' σ H ow' → Keep (AI i (AvS A env ow i.vars)) H1 H := fun h a o e n => keep h a o e fun z => n (hav a z)
    have new : ∀ {env' : Env} {σ H} {ow' : Nat → Addr}, SRo p H0' A env' σ H ow' → ∀ a, Av A env' ow' a → AI i (AvS A env ow i.vars) a ∨ H1 a = none := fun {env' σ H ow'} h a z => by
      rcases z with z | ⟨j, d, e, rfl⟩
      · exact .inl (hav a (.inl z))
      · obtain ⟨_, e0, _⟩ := h.own j d e
        rw [← hU] at e0
        unfold unOwn at e0
        split at e0
        · rename_i c
          exact .inl (hav _ (.inr c))
        · exact .inr e0
    refine ⟨fun j m σ H => m = ds.length - j ∧ j ≤ ds.length ∧ ∃ env, SR p H0' A env σ H ∧ Endo p H0' A D (evFor (evSs p.Φ fu y) tt (ds.drop j) env), ⟨ds.length, by simp, Nat.zero_le _, env2, ⟨ow, h3⟩, by simpa using q⟩, ?_⟩
    rintro j m σ' H' ⟨rfl, hj, env3, ⟨ow3, h4⟩, q3⟩
    by_cases hlt : j < ds.length
    · refine .inr ⟨runs.go j H' (keep' h4) hlt, fun σ' H' => (j + 1) ≤ ds.length ∧ ∃ env, SR p H0' A env σ' H' ∧ Endo p H0' A D (evFor (evSs p.Φ fu y) tt (ds.drop (j + 1)) env),
        fun σ' H' h => ⟨ds.length - (j + 1), by omega, rfl, h⟩, fun v H5 hy => ?_⟩
      obtain ⟨d, hdd, s5, hrp⟩ := runs.yld j H' v H5 (Av A env3 ow3) hlt (keep' h4) h4.trA (new h4) hy
      have hdr : ds.drop j = d :: ds.drop (j + 1) := by
        have e := List.drop_eq_getElem_cons hlt
        rw [List.getElem?_eq_getElem hlt] at hdd
        rw [e, Option.some.inj hdd]
      rw [hdr] at q3
      unfold evFor at q3
      cases has : asgT tt d env3 with
      | none => rw [has] at q3; exact q3.elim
      | some env4 =>
        rw [has] at q3
        refine gT_mono (gT_SR has hl hrp (h4.sameH s5)) fun σ2 H2 ⟨e5, h5⟩ => ?_
        subst e5
        refine ⟨H0', A, env4, ⟨ow3, h5⟩, ?_⟩
        have q3 : Endo p H0' A D (match evSs p.Φ fu y env4 with
          | .nx env2 => evFor (evSs p.Φ fu y) tt (ds.drop (j + 1)) env2
          | .bk env2 => .nx env2
          | o => o) := q3
        cases e6 : evSs p.Φ fu y env4 with
        | nx env5 => rw [e6] at q3; exact fun σ' H' h' => ⟨hlt, env5, h', q3⟩
        | bk env5 => rw [e6] at q3; exact q3
        | rt d => rw [e6] at q3; exact q3
        | ex c2 env5 => rw [e6] at q3; exact q3
        | st => rw [e6] at q3; exact q3
    · have hj' : j = ds.length := by omega
      refine .inl ⟨runs.stop j H' (keep' h4) (by omega), ?_⟩
      rw [hj', List.drop_length] at q3
      exact q3 σ' H' ⟨ow3, h4⟩
theorem swap_false {e : Expr} {x : E} {l : Nat} {env : PySem.Env} {y : Str} {py : Pos} (h : cE g n cm sc e = some x) (hs : swB sc (.Name y py) e = some false) (hk : env.kindOf y = sc.names.lookup y) : swapsWith e (some (.Name y py)) l env = pure false := by
  cases n with
  | zero => simp [cE] at h
  | succ n =>
    cases e with
    | ListComp elt gens scope pos =>
      simp only [swB, Option.some.injEq] at hs
      show (pure (env.blockKind == .function && env.kindOf y == some .local && (py.line == pos.line) && !(scope.names.any fun (n, k) => n == y && (k == .local || k == .cell))) : Sem Bool) = pure false
      congr 1
      rw [hk]
      revert hs
      generalize (py.line == pos.line) = c1
      generalize (sc.names.lookup y == some .local) = c2
      generalize (!(scope.names.any fun (n, k) => n == y && (k == .local || k == .cell))) = c3
      generalize (env.blockKind == .function) = c4
      cases c1 <;> cases c2 <;> cases c3 <;> cases c4 <;> simp
    | _ => first | rfl | (simp [cE] at h; done)
theorem s_asg1 {x : Str} {px : Pos} {e : Expr} {ir : E} {i : Nat} (ok : OkT g k cm sc X p) (hi : ix? x g.N 0 = some i) (hl : locB sc x = true) (h : cE g n cm sc e = some ir) (hs : (swB sc (.Name x px) e).isNone = false) (hfr : ir.fresh = true → frE e = true) :
    PS X (.Assign [.Name x px] e pos) (tS p (evS p.Φ fu (.asg (.n i) ir))) := by
  have hN : X.N.Nodup := by rw [ok.hN]; exact ok.nd
  have hi2 : X.N[i]? = some x := by rw [ok.hN]; exact ix?_zero hi
  obtain ⟨st1, st2⟩ := ok.st x hl
  have hil : i < p.nl := by rw [ok.nl]; exact ix?_lt hi
  have fin : ∀ {D : Ends} {σ : L2.St} {H : Hp}, tS p (evS p.Φ fu (.asg (.n i) ir)) D σ H → (ir.fresh = true → tEf p ir σ H fun v H1 => D.nx (σ.set i (some v)) H1) ∧ (ir.fresh = false → tE p ir σ H fun v H1 => D.nx (σ.set i (some v)) H1) := by
    rintro D σ H ⟨H0, A, env, ⟨ow, h⟩, q⟩
    simp only [evS] at q
    exact ⟨fun hf => ⟨_, env, h.pre _, (onR_use h q).mono fun d H1 s ⟨h1, q⟩ v hv tn => q _ _ (h.put hil s hv fun _ => tn)⟩,
      fun hf => ⟨_, env, h.pre _, (onR_use h q).mono fun d H1 s ⟨h1, q⟩ v hv => q _ _ (h.put hil s hv fun z => by rw [hf] at z; cases z)⟩⟩
  cases hsw : swB sc (.Name x px) e with
  | none => rw [hsw] at hs; cases hs
  | some b =>
    cases b with
    | false =>
      cases hf : ir.fresh with
      | false => exact PS.imp (ps_set (pos' := px) hN hi2 st1 ((snd n).e _ _ _ _ _ _ ok.toOkX h) (swap_false h hsw (by show X.env.scope.names.lookup _ = _; rw [ok.sc])) st2) fun D σ H q => (fin q).2 hf
      | true =>
        cases n with
        | zero => simp [cE] at h
        | succ n => exact PS.imp (ps_set (pos' := px) hN hi2 st1 (l_fr (snd n) _ _ _ _ _ _ ok.toOkX h (hfr hf) hf) (swap_false h hsw (by show X.env.scope.names.lookup _ = _; rw [ok.sc])) st2) fun D σ H q => (fin q).1 hf
    | true =>
      unfold swB at hsw
      split at hsw
      · rename_i y py elt gens scope cpos e1
        cases e1
        simp only [Option.some.injEq, Bool.and_eq_true] at hsw
        · obtain ⟨c1, c2⟩ := hsw
          · simp only [Bool.and_eq_true, Bool.not_eq_true', beq_iff_eq] at c2
            cases n with
            | zero => simp [cE] at h
            | succ n =>
              unfold cE at h
              split at h
              all_goals try (rename_i e; cases e; done)
              · rename_i e
                cases e
                split at h
                · cases h
                rename_i hb
                simp only [Bool.or_eq_true, not_or, Bool.not_eq_true', Bool.not_eq_false] at hb
                obtain ⟨rfl, hb⟩ := hb
                simp only [Option.bind_eq_some_iff] at h
                obtain ⟨ii, hii, tt, htt, h⟩ := h
                split at h
                · cases h
                rename_i hids
                simp only [Bool.not_eq_true', Bool.not_eq_false] at hids
                simp only [Option.bind_eq_some_iff, Option.map_eq_some_iff] at h
                obtain ⟨cc, hc, xx, hx, rfl⟩ := h
                have hsc : X.env.scope.names.lookup x = some .local := by rw [ok.sc]; exact c2.1
                refine ⟨fun pins s σ H D I q => ?_⟩
                exact (l_setLc ok.toOkX hb ((snd n).i _ _ _ _ _ _ _ ok.toOkX hii) htt hids (fold_of hii X.env) (fun X' ok' => (snd n).f _ _ _ _ _ _ ok' hc) (fun X' ok' => (snd n).e _ _ _ _ _ _ ok' hx) hi hsc
                  (sw_true I.ok.kind hsc c1 c2.2)).run pins s σ H D I ((fin q).1 rfl)
              · cases h
      · cases hsw
theorem s_asgT {t e : Expr} {ir : E} {is : List Nat} (ok : OkT g k true sc X p) (ht : cT g sc t = some (.t is)) (hne : ∀ es j q, e ≠ .Tuple es j q) (h : cE g n true sc e = some ir) : PS X (.Assign [t] e pos) (tS p (evS p.Φ fu (.asg (.t is) ir))) := by
  have htt : ∃ es j q, t = .Tuple es j q := by
    unfold cT at ht
    split at ht
    · split at ht
      · split at ht <;> cases ht
      · cases ht
    · exact ⟨_, _, _, rfl⟩
    · cases ht
  obtain ⟨es, j, q0, rfl⟩ := htt
  have hs : ∀ l, swapsWithSole [.Tuple es j q0] e l X.env = pure false := fun l => by
    cases e <;> rfl
  have hw : swappedStores [.Tuple es j q0] e X.env = pure none := by
    unfold swappedStores
    cases e <;> first | rfl | exact absurd rfl (hne _ _ _)
  refine PS.imp (ps_asg ((snd n).e _ _ _ _ _ _ ok.toOkX h) (cT_ok ok.hN ok.nd (.inl ok.cal) ok.st ht) (hs _) hw rfl) fun D σ H ⟨H0, A, env, ⟨ow, h⟩, q⟩ => ?_
  simp only [evS] at q
  refine ⟨_, env, h.pre _, (onR_use h q).mono fun d H1 s ⟨h1, q⟩ v hv => ?_⟩
  obtain ⟨h2, r2⟩ := h1.shr ir.vars hv
  cases has : asgT (.t is) d (shr ir.vars d env) with
  | none => rw [has] at q; exact q.elim
  | some env1 =>
    rw [has] at q
    exact gT_mono (gT_SR has (fun i hi => by rw [ok.nl]; exact cT_lt ht i hi) r2 h2) fun σ2 H2 ⟨e, h3⟩ => q _ _ ⟨ow, by rw [e]; exact h3⟩
end
end PC

set_option Elab.async false
set_option linter.all false
/-! PC13: statements that change a list; +=. -/
namespace PC
open PySem PySem.Spec PyProof.Rows L2
def ipD (o : Op) : TIp := fun x y H Q => ∃ a b c, x = .int a ∧ y = .int b ∧ augD o a (.int b) = .ok (.int c) ∧ Q (.int c) H
theorem ip_D {X : Cx} (o : Op) : PIp X (opS o) (ipD o) := by
  intro pins s σ H x y v u Q I r1 r2 h
  obtain ⟨a, b, c, rfl, rfl, e, q⟩ := h
  obtain ⟨t, rfl⟩ := r1
  obtain ⟨t', rfl⟩ := r2
  cases o with
  | add => cases e; exact iadd_int ⟨.int _, H, I.tok _, ⟨_, rfl⟩, q⟩
  | sub => cases e; exact isub_int ⟨.int _, H, I.tok _, ⟨_, rfl⟩, q⟩
  | mul =>
    simp only [augD] at e
    split at e
    · rename_i c
      cases e
      refine imul_int ⟨.int _, H, I.tok _, ⟨_, rfl⟩, q⟩ ?_
      have c := mulOk_iff c
      rcases c with (c | c) | c
      · exact .of_left (intBits_le_64 c.1 c.2)
      · exact .of_right (intBits_le_64 c.1 c.2)
      · exact CMulW.ok c
    · cases e
  | div =>
    simp only [augD] at e
    split at e
    · rename_i c
      cases e
      refine AutoIntOps.ifloordiv_1 (by simp; omega) (by rw [PyProof.noPylong_of_log2 c.2]; decide) ?_
      show EP X pins σ Q (.int (a.fdiv b) s.toks) { s with toks := s.toks + 1 }
      rw [Int.fdiv_eq_ediv_of_nonneg a (by omega)]
      exact ⟨.int _, H, I.tok _, ⟨_, rfl⟩, q⟩
    · cases e
  | _ => cases e
section
variable {g : G} {k n fu : Nat} {cm : Bool} {sc : Scope} {X : Cx} {p : Pm} {pos : Pos}
theorem s_aug {x : Str} {px : Pos} {e : Expr} {ir : E} {i : Nat} {o : Operator} {o' : Op} (ok : OkT g k cm sc X p) (hi : ix? x g.N 0 = some i) (hl : locB sc x = true) (ho : opOf o = some o') (h : cE g n cm sc e = some ir) :
    PS X (.AugAssign (.Name x px) o e pos) (tS p (evS p.Φ fu (.aug i o' ir))) := by
  have hN : X.N.Nodup := by rw [ok.hN]; exact ok.nd
  have hi2 : X.N[i]? = some x := by rw [ok.hN]; exact ix?_zero hi
  obtain ⟨st1, st2⟩ := ok.st x hl
  have hil : i < p.nl := by rw [ok.nl]; exact ix?_lt hi
  rw [opOf_eq ho]
  refine PS.imp (ps_aug hN hi2 st1 ((snd n).e _ _ _ _ _ _ ok.toOkX h) (ip_D o') st2) fun D σ H ⟨H0, A, env, ⟨ow, hh⟩, q⟩ => ?_
  simp only [evS] at q
  split at q
  · rename_i a e1
    obtain ⟨v, e2, hv⟩ := hh.frz i _ e1
    cases hv
    refine ⟨_, e2, _, env, hh.pre _, (onR_use hh q).mono fun d H1 s ⟨h1, q⟩ y hy => ?_⟩
    split at q
    · rename_i z e3
      have hd : ∃ b, d = .int b := by
        cases o' <;> cases d <;> first | exact ⟨_, rfl⟩ | (simp [augD] at e3; done)
      obtain ⟨b, rfl⟩ := hd
      cases hy
      exact ⟨a, b, z, rfl, rfl, e3, q _ _ ⟨ow, h1.setF hil (.int _)⟩⟩
    · exact q.elim
  · exact q.elim
/-- a name that holds an owned list -/
theorem SRo.cell {H0 H : Hp} {A : Addr → Prop} {env : Env} {σ : L2.St} {ow : Nat → Addr} {i : Nat} {l : List D} (h : SRo p H0 A env σ H ow) (e : geti env i = .o (.list l)) :
    ∃ xs, σ[i]? = some (some (.ref (ow i))) ∧ H (ow i) = some (.lst xs) ∧ xs.length ≤ sizeLine ∧ RpA (Av A env ow) H xs l := by
  obtain ⟨e1, _, xs, ds, e3, e2, z, r⟩ := h.own i _ e
  cases e3
  exact ⟨xs, e1, e2, z, r⟩
theorem geti_shr {vs : List Nat} {d : D} {env : Env} {i : Nat} {x : D} (h : geti (PC.shr vs d env) i = .o x) : geti env i = .o x := by
  unfold PC.shr at h
  split at h
  · exact h
  · exact (frz_o h).1
theorem geti_ifz {vs : List Nat} {c : Bool} {env : Env} {i : Nat} {x : D} (h : geti (if c then env else frzS vs 0 env) i = .o x) : geti env i = .o x := by
  split at h
  · exact h
  · exact (frz_o h).1
/-- a built-in method of a named list as a statement, one argument -/
theorem ps_m1 {x : Str} {px ap cp : Pos} {m : Str} {a : Expr} {i : Nat} {id : String} {r : V → List V → Hp → VK → Prop} {y : E} (ok : OkT g k cm sc X p) (hi : ix? x g.N 0 = some i) (hv : visB sc x = true) (hd : (x == ("__debug__" : Str)) = false) (hcd : (x == ("__classdict__" : Str)) = false)
    (slot : Slot "list" m id) (hty : typeOf (.builtin id) = pure (.type "method_descriptor")) (hm : MtR X id r) (hline : (ap.endLine == cp.line) = true) (hy : cE g n cm sc a = some y) :
    PS X (.Expr (.Call (.Attribute (.Name x px) m ap) [a] [] cp) pos) (tDrop (tBM X.K "list" r (tVar i) (tCons (tE p y) tNil))) := by
  have hi2 : X.N[i]? = some x := by rw [ok.hN]; exact ix?_zero hi
  refine ps_expr (pe_bm PySem.F.plainAttrs_list slot hty hm (pe_var hi2 (by rw [ok.sc]; exact vis_of hv) hd hcd) (pa_cons ((snd n).e _ _ _ _ _ _ ok.toOkX hy) pa_nil (star_of hy [] X.env)) rfl (by rw [star_of hy [] X.env]; rfl) hline (star_of hy [] X.env) rfl) rfl
theorem not_before {k : Int} : ∀ (ns : List Int) (m : Nat), m < ns.idxOf k → ns[m]? ≠ some k
  | [], m, h => by simp at h
  | a :: r, 0, h => by
    intro e
    simp at e
    subst e
    simp at h
  | a :: r, m + 1, h => by
    rw [List.getElem?_cons_succ]
    refine not_before r m ?_
    rw [List.idxOf_cons] at h
    cases c : (a == k) with
    | true => simp [c] at h
    | false =>
      simp only [c, cond_false] at h
      omega
theorem list_extend_tupG (l : Addr) (items : Array Value) (n : Nat) (b : Addr) (items2 : Array Value) (n2 : Nat) (dct : Option Addr) (sl : Array (Option Value)) (hs0 : ¬(!items.isEmpty && Builtin.List.listTooLong (items.size + items2.size)) = true) (hs1 : items.size ≤ sizeLine) (hs2 : items.size + items2.size ≤ sizeLine + 1) :
    Meets (Builtin.«list.extend» ⟨[.ref l, .ref b], []⟩) (fun _ R s => s.heap.get? l = some { cls := .type "list", dict := none, data := .seq items n, slots := #[] } ∧ s.heap.get? b = some { cls := .type "tuple", dict := dct, data := .seq items2 n2, slots := sl } ∧ R (.ok (.ret Value.none)) { s with heap := s.heap.update l (Obj.mapSeq fun x => x ++ items2), toks := s.toks }) :=
  .of_wp fun prog w A R s h => by
    obtain ⟨hp, g, d, tk, os⟩ := s; obtain ⟨hl, hb, h⟩ := h; have f1 := AutoSeq1.idx_int; have f2 := AutoSeq1.sub_tuple_tuple; have f3 := AutoSeq1.sub_list_list; have f4 := AutoSeq1.sub_tuple_list; have f5 := AutoSeq1.sub_list_tuple;
    have hz' : (items ++ items2).size ≤ sizeLine + 1 := by rw [Array.size_append]; exact hs2
    wp_walk using (wpAny_updateSeq hl rfl (hz := hs1) (_hz' := hz')), AutoSeq1.wpAny_loadPart' hl, AutoSeq1.wpAny_loadPart' hb; exact ⟨_, rfl, h⟩
def rExtD : V → List V → Hp → VK → Prop := fun x vs H Q => ∃ l b xs zs, x = .ref l ∧ vs = [.ref b] ∧ H l = some (.lst xs) ∧ (Rd H b (.lst zs) ∨ H b = some (.tup zs)) ∧ xs.length + zs.length ≤ sizeLine ∧ Q .non (upd H l (.lst (xs ++ zs)))
theorem mt_extD {X : Cx} : MtR X "list.extend" rExtD := by
  intro pins s σ H x vs v us Q I rx rv h
  obtain ⟨l, b, xs, zs, rfl, rfl, hH, hB, hz, q⟩ := h
  cases rx
  obtain ⟨u, rfl, ru⟩ := rv.one
  cases ru
  obtain ⟨z, its, n, r, hl, e⟩ := I.lstM hH
  rcases hB with hB | hB
  · obtain ⟨z2, its2, n2, r2, e2⟩ := hB.ok I.hok
    have hl2 := r2.length
    have hsz : its.toArray.size + its2.toArray.size ≤ sizeLine := by rw [List.size_toArray, List.size_toArray]; omega
    have hlong : ¬ (!its.toArray.isEmpty && Builtin.List.listTooLong (its.toArray.size + its2.toArray.size)) = true := by
      rw [notLongL hsz, Bool.and_false]
      exact Bool.false_ne_true
    refine call_meets F.slot_list_extend ⟨_, e, rfl⟩ F.entry_list_extend (F.args_list_extend_2 _ _)
      (AutoSeq1.list_extend_list_list_0 l its.toArray n b its2.toArray n2 hlong (by rw [List.size_toArray]; omega) (by omega)) ⟨e, e2, ?_⟩
    refine ⟨.non, _, I.lset (its' := its ++ its2) hH e (by simp) (r.append r2) ?_, rfl, q⟩
    rw [List.length_append]
    omega
  · obtain ⟨z2, its2, r2, o2, e2, hc2, n2, hd2⟩ := I.hok b _ hB
    obtain ⟨cls, dct, dat, sl⟩ := o2
    cases hc2
    cases hd2
    have hl2 := r2.length
    have hsz : its.toArray.size + its2.toArray.size ≤ sizeLine := by rw [List.size_toArray, List.size_toArray]; omega
    have hlong : ¬ (!its.toArray.isEmpty && Builtin.List.listTooLong (its.toArray.size + its2.toArray.size)) = true := by
      rw [notLongL hsz, Bool.and_false]
      exact Bool.false_ne_true
    refine call_meets F.slot_list_extend ⟨_, e, rfl⟩ F.entry_list_extend (F.args_list_extend_2 _ _)
      (list_extend_tupG l its.toArray n b its2.toArray n2 dct sl hlong (by rw [List.size_toArray]; omega) (by omega)) ⟨e, e2, ?_⟩
    refine ⟨.non, _, I.lset (its' := its ++ its2) hH e (by simp) (r.append r2) ?_, rfl, q⟩
    rw [List.length_append]
    omega
theorem s_app {x : Str} {px ap cp : Pos} {a : Expr} {i : Nat} {y : E} (ok : OkT g k cm sc X p) (hi : ix? x g.N 0 = some i) (hv : visB sc x = true) (hd : (x == ("__debug__" : Str)) = false) (hcd : (x == ("__classdict__" : Str)) = false) (hline : (ap.endLine == cp.line) = true) (hy : cE g n cm sc a = some y) :
    PS X (.Expr (.Call (.Attribute (.Name x px) "append" ap) [a] [] cp) pos) (tS p (evS p.Φ fu (.app i y))) := by
  refine PS.imp (ps_m1 ok hi hv hd hcd PySem.F.slot_list_append PySem.F.type_list_append mt_append hline hy) fun D σ H ⟨H0, A, env, ⟨ow, hh⟩, q⟩ => ?_
  simp only [evS] at q
  split at q
  · rename_i l e1
    obtain ⟨xs, c1, c2, c3, c4⟩ := hh.cell e1
    refine ⟨_, c1, .inl ⟨rfl, xs, .inl (.inl c2)⟩, _, env, hh.pre _, (onR_use hh q).mono fun d H1 s ⟨h1, q⟩ v hv => ?_⟩
    obtain ⟨h2, r2⟩ := h1.shr y.vars hv
    split at q
    · rename_i d0 e2
      have e3 := geti_shr e2
      rw [e1] at e3
      cases e3
      obtain ⟨xs', c1', c2', c3', c4'⟩ := h2.cell e2
      split at q
      · rename_i hc
        have hl := c4'.length
        have hcap : cap < sizeLine := by rw [sizeLine_eq]; decide
        exact ⟨ow i, xs', v, rfl, rfl, c2', by omega, q _ _ ⟨ow, h2.mut e2 (by rw [List.length_append]; simp; omega) (c4'.append (.cons r2 .nil))⟩⟩
      · exact q.elim
    · exact q.elim
  · exact q.elim
theorem s_rem {x : Str} {px ap cp : Pos} {a : Expr} {i : Nat} {y : E} (ok : OkT g k cm sc X p) (hi : ix? x g.N 0 = some i) (hv : visB sc x = true) (hd : (x == ("__debug__" : Str)) = false) (hcd : (x == ("__classdict__" : Str)) = false) (hline : (ap.endLine == cp.line) = true) (hy : cE g n cm sc a = some y) :
    PS X (.Expr (.Call (.Attribute (.Name x px) "remove" ap) [a] [] cp) pos) (tS p (evS p.Φ fu (.rem i y))) := by
  refine PS.imp (ps_m1 ok hi hv hd hcd PySem.F.slot_list_remove PySem.F.type_list_remove mt_remove hline hy) fun D σ H ⟨H0, A, env, ⟨ow, hh⟩, q⟩ => ?_
  simp only [evS] at q
  split at q
  · rename_i l e1
    obtain ⟨xs, c1, c2, c3, c4⟩ := hh.cell e1
    refine ⟨_, c1, .inl ⟨rfl, xs, .inl (.inl c2)⟩, _, env, hh.pre _, (onR_use hh q).mono fun d H1 s ⟨h1, q⟩ v hv => ?_⟩
    split at q
    · rename_i k ns e2 _
      cases hv
      obtain ⟨xs', c1', c2', c3', c4'⟩ := h1.cell e1
      have ee := c4'.asInts e2
      subst ee
      split at q
      · rename_i hk
        refine ⟨ow i, ns, k, ns.idxOf k, rfl, rfl, c2', ?_, ?_, q _ _ ⟨ow, h1.mut e1 ?_ ?_⟩⟩
        · rw [List.getElem?_eq_getElem (List.idxOf_lt_length_of_mem hk)]
          simp
        · exact fun m hm => not_before ns m hm
        · rw [List.length_map]
          rw [List.length_map] at c3'
          exact Nat.le_trans (List.length_eraseIdx_le _ _) c3'
        · rw [List.erase_eq_eraseIdx_of_idxOf rfl]
          exact RpA.ofInts
      · exact q.elim
    · exact q.elim
  · exact q.elim
theorem s_rvs {x : Str} {px ap cp : Pos} {i : Nat} (ok : OkT g k cm sc X p) (hi : ix? x g.N 0 = some i) (hv : visB sc x = true) (hd : (x == ("__debug__" : Str)) = false) (hcd : (x == ("__classdict__" : Str)) = false) (hline : (ap.endLine == cp.line) = true) :
    PS X (.Expr (.Call (.Attribute (.Name x px) "reverse" ap) [] [] cp) pos) (tS p (evS p.Φ fu (.rvs i))) := by
  have hi2 : X.N[i]? = some x := by rw [ok.hN]; exact ix?_zero hi
  refine PS.imp (ps_expr (pe_bm0 PySem.F.plainAttrs_list PySem.F.slot_list_reverse PySem.F.type_list_reverse mt_reverse (pe_var hi2 (by rw [ok.sc]; exact vis_of hv) hd hcd) rfl hline) rfl) fun D σ H ⟨H0, A, env, ⟨ow, hh⟩, q⟩ => ?_
  simp only [evS] at q
  split at q
  · rename_i l e1
    obtain ⟨xs, c1, c2, c3, c4⟩ := hh.cell e1
    exact ⟨_, c1, .inl ⟨rfl, xs, .inl (.inl c2)⟩, ow i, xs, rfl, rfl, c2, q _ _ ⟨ow, hh.mut e1 (by rw [List.length_reverse]; exact c3) c4.reverse⟩⟩
  · exact q.elim
theorem s_srt {x : Str} {px ap cp : Pos} {i : Nat} (ok : OkT g k cm sc X p) (hi : ix? x g.N 0 = some i) (hv : visB sc x = true) (hd : (x == ("__debug__" : Str)) = false) (hcd : (x == ("__classdict__" : Str)) = false) (hline : (ap.endLine == cp.line) = true) :
    PS X (.Expr (.Call (.Attribute (.Name x px) "sort" ap) [] [] cp) pos) (tS p (evS p.Φ fu (.srt i))) := by
  have hi2 : X.N[i]? = some x := by rw [ok.hN]; exact ix?_zero hi
  refine PS.imp (ps_expr (pe_bm0 PySem.F.plainAttrs_list PyProof.Rows.slot_list_sort (by first | exact PySem.F.type_list_sort | exact PyProof.Rows.type_list_sort | (show builtinType _ = _; rw [builtinType_eq_fast]; kernel_rfl)) mt_sortI (pe_var hi2 (by rw [ok.sc]; exact vis_of hv) hd hcd) rfl hline) rfl) fun D σ H ⟨H0, A, env, ⟨ow, hh⟩, q⟩ => ?_
  simp only [evS] at q
  split at q
  · rename_i l e1
    obtain ⟨xs, c1, c2, c3, c4⟩ := hh.cell e1
    split at q
    · rename_i ns e2
      have ee := c4.asInts e2
      subst ee
      refine ⟨_, c1, .inl ⟨rfl, _, .inl (.inl c2)⟩, ow i, ns, rfl, rfl, c2, fun ns' hp hs => ?_⟩
      have e4 : ns' = isort ns := sorted_uniq hs (isort_sorted ns) (hp.trans (isort_perm ns).symm)
      subst e4
      refine q _ _ ⟨ow, hh.mut e1 ?_ RpA.ofInts⟩
      rw [List.length_map, hp.length_eq]
      rw [List.length_map] at c3
      exact c3
    · exact q.elim
  · exact q.elim
theorem s_ext {x : Str} {px ap cp : Pos} {a : Expr} {i : Nat} {y : E} (ok : OkT g k cm sc X p) (hi : ix? x g.N 0 = some i) (hv : visB sc x = true) (hd : (x == ("__debug__" : Str)) = false) (hcd : (x == ("__classdict__" : Str)) = false) (hline : (ap.endLine == cp.line) = true) (hy : cE g n cm sc a = some y) :
    PS X (.Expr (.Call (.Attribute (.Name x px) "extend" ap) [a] [] cp) pos) (tS p (evS p.Φ fu (.ext i y))) := by
  refine PS.imp (ps_m1 ok hi hv hd hcd PySem.F.slot_list_extend PySem.F.type_list_extend mt_extD hline hy) fun D σ H ⟨H0, A, env, ⟨ow, hh⟩, q⟩ => ?_
  simp only [evS] at q
  split at q
  · rename_i l e1
    obtain ⟨xs, c1, c2, c3, c4⟩ := hh.cell e1
    refine ⟨_, c1, .inl ⟨rfl, xs, .inl (.inl c2)⟩, _, env, hh.pre _, (onR_use hh q).mono fun d H1 s ⟨h1, q⟩ v hv => ?_⟩
    cases e2 : lstD d with
    | none => rw [e2] at q; exact q.elim
    | some m =>
      rw [e2] at q
      simp only at q
      have key : ∃ b zs, v = .ref b ∧ (Rd H1 b (.lst zs) ∨ H1 b = some (.tup zs)) ∧ RpA (AvS A env ow y.vars) H1 zs m := by
        cases hv with
        | lst n h z ra => cases e2; exact ⟨_, _, rfl, .inl h, ra⟩
        | tup n h z ra => cases e2; exact ⟨_, _, rfl, .inr h, ra⟩
        | _ => cases e2
      obtain ⟨b, zs, rfl, hb, ra⟩ := key
      obtain ⟨h2, r2⟩ := h1.shrA y.vars ra
      split at q
      · rename_i d0 e3
        have e4 := geti_ifz e3
        rw [e1] at e4
        cases e4
        obtain ⟨xs', c1', c2', c3', c4'⟩ := h2.cell e3
        split at q
        · rename_i hc
          have hl := c4'.length
          have hl2 := r2.length
          have hcap : cap < sizeLine := by rw [sizeLine_eq]; decide
          exact ⟨ow i, b, xs', zs, rfl, rfl, c2', hb, by omega, q _ _ ⟨ow, h2.mut e3 (by rw [List.length_append]; omega) (c4'.append r2)⟩⟩
        · exact q.elim
      · exact q.elim
  · exact q.elim
theorem s_ins {x : Str} {px ap cp : Pos} {a b : Expr} {i : Nat} {y z : E} (ok : OkT g k cm sc X p) (hi : ix? x g.N 0 = some i) (hv : visB sc x = true) (hd : (x == ("__debug__" : Str)) = false) (hcd : (x == ("__classdict__" : Str)) = false) (hline : (ap.endLine == cp.line) = true) (hy : cE g n cm sc a = some y) (hz : cE g n cm sc b = some z) :
    PS X (.Expr (.Call (.Attribute (.Name x px) "insert" ap) [a, b] [] cp) pos) (tS p (evS p.Φ fu (.ins i y z))) := by
  have hi2 : X.N[i]? = some x := by rw [ok.hN]; exact ix?_zero hi
  refine PS.imp (ps_expr (pe_bm PySem.F.plainAttrs_list PySem.F.slot_list_insert PySem.F.type_list_insert mt_insert (pe_var hi2 (by rw [ok.sc]; exact vis_of hv) hd hcd) (pa_cons ((snd n).e _ _ _ _ _ _ ok.toOkX hy) (pa_cons ((snd n).e _ _ _ _ _ _ ok.toOkX hz) pa_nil (star_of hz [] X.env)) (star_of hy [b] X.env)) rfl
    (by rw [star_of hy [b], star_of hz []]; rfl) hline (star_of hy [b] X.env) (by rw [star_of hz []]; rfl)) rfl) fun D σ H ⟨H0, A, env, ⟨ow, hh⟩, q⟩ => ?_
  simp only [evS] at q
  split at q
  · rename_i l e1
    obtain ⟨xs, c1, c2, c3, c4⟩ := hh.cell e1
    refine ⟨_, c1, .inl ⟨rfl, xs, .inl (.inl c2)⟩, _, env, hh.pre _, (onR_use hh q).mono fun d1 H1 s1 ⟨h1, q⟩ v hv => ⟨_, env, h1.pre _, (onR_use h1 q).mono fun d H2 s2 ⟨h2, q⟩ w hw => ?_⟩⟩
    obtain ⟨h3, r3⟩ := h2.shr z.vars hw
    split at q
    · rename_i kk d0 e2 _ _ _
      cases hv
      have e3 := geti_shr e2
      rw [e1] at e3
      cases e3
      obtain ⟨xs', c1', c2', c3', c4'⟩ := h3.cell e2
      split at q
      · rename_i hc
        have hl := c4'.length
        have hcap : cap < sizeLine := by rw [sizeLine_eq]; decide
        have hcap2 : cap < 2 ^ 60 := by decide
        refine ⟨ow i, xs', kk, w, rfl, rfl, c2', by omega, hc.1, by omega, q _ _ ⟨ow, ?_⟩⟩
        rw [List.append_assoc]
        refine h3.mut e2 ?_ ((c4'.take _).append (.cons r3 (c4'.drop _)))
        rw [List.length_append, List.length_append, List.length_take, List.length_drop, List.length_singleton]
        omega
      · exact q.elim
    · exact q.elim
  · exact q.elim
theorem SRo.keepMut {H0 H : Hp} {A : Addr → Prop} {env : Env} {σ : L2.St} {ow : Nat → Addr} {j : Nat} {d0 : D} {o : HO} (h : SRo p H0 A env σ H ow) (e : geti env j = .o d0) : Keep (Av A env ow) H (upd H (ow j) o) := fun b u e2 n => by
  rw [upd_ne (fun q => n (by rw [q]; exact .inr ⟨j, _, e, rfl⟩))]
  exact e2
theorem popOf_some {a b : Expr} {j : Nat} (h : popOf g sc a = some (j, b)) : ∃ y py ap cp, a = .Call (.Attribute (.Name y py) "pop" ap) [b] [] cp ∧ (ap.endLine == cp.line) = true ∧ visB sc y = true ∧ (y == ("__debug__" : Str)) = false ∧ (y == ("__classdict__" : Str)) = false ∧ ix? y g.N 0 = some j := by
  unfold popOf at h
  split at h
  · split at h
    · rename_i c
      simp only [Option.map_eq_some_iff, Prod.mk.injEq] at h
      obtain ⟨j', h1, rfl, rfl⟩ := h
      simp only [Bool.and_eq_true, Bool.not_eq_true'] at c
      obtain ⟨⟨⟨⟨c1, c2⟩, c3⟩, c4⟩, c5⟩ := c
      have c1 := eq_of_beq c1
      subst c1
      exact ⟨_, _, _, _, rfl, c2, c3, c4, c5, h1⟩
    · cases h
  · cases h
theorem s_appPop {x : Str} {px ap cp : Pos} {a b : Expr} {i j : Nat} {z : E} (ok : OkT g k cm sc X p) (hi : ix? x g.N 0 = some i) (hv : visB sc x = true) (hd : (x == ("__debug__" : Str)) = false) (hcd : (x == ("__classdict__" : Str)) = false) (hline : (ap.endLine == cp.line) = true)
    (ha : popOf g sc a = some (j, b)) (hz : cE g n cm sc b = some z) :
    PS X (.Expr (.Call (.Attribute (.Name x px) "append" ap) [a] [] cp) pos) (tS p (evS p.Φ fu (.appPop i j z))) := by
  obtain ⟨y, py, ap2, cp2, rfl, hline2, hv2, hd2, hcd2, hj⟩ := popOf_some ha
  have hi2 : X.N[i]? = some x := by rw [ok.hN]; exact ix?_zero hi
  have hj2 : X.N[j]? = some y := by rw [ok.hN]; exact ix?_zero hj
  refine PS.imp (ps_expr (pe_bm PySem.F.plainAttrs_list PySem.F.slot_list_append PySem.F.type_list_append mt_append (pe_var hi2 (by rw [ok.sc]; exact vis_of hv) hd hcd)
    (pa_cons (pe_bm PySem.F.plainAttrs_list PySem.F.slot_list_pop PySem.F.type_list_pop mt_popAt (pe_var hj2 (by rw [ok.sc]; exact vis_of hv2) hd2 hcd2) (pa_cons ((snd n).e _ _ _ _ _ _ ok.toOkX hz) pa_nil (star_of hz [] X.env)) rfl (by rw [star_of hz [] X.env]; rfl) hline2 (star_of hz [] X.env) rfl) pa_nil rfl) rfl rfl hline rfl rfl) rfl) fun D σ H ⟨H0, A, env, ⟨ow, hh⟩, q⟩ => ?_
  simp only [evS] at q
  split at q
  · rename_i m l e1 e2
    obtain ⟨xs, c1, c2, c3, c4⟩ := hh.cell e1
    obtain ⟨ys, d1, d2, d3, d4⟩ := hh.cell e2
    refine ⟨_, c1, .inl ⟨rfl, xs, .inl (.inl c2)⟩, _, d1, .inl ⟨rfl, ys, .inl (.inl d2)⟩, _, env, hh.pre _, (onR_use hh q).mono fun d0 H1 s1 ⟨h1, q⟩ v hv => ?_⟩
    cases hv with
    | int kk =>
      simp only at q
      cases e3 : popAt l kk with
      | none => rw [e3] at q; exact q.elim
      | some dl =>
        obtain ⟨d, l'⟩ := dl
        rw [e3] at q
        simp only at q
        split at q
        · rename_i hc
          obtain ⟨xs', c1', c2', c3', c4'⟩ := h1.cell e1
          obtain ⟨ys', d1', d2', d3', d4'⟩ := h1.cell e2
          unfold popAt at e3
          split at e3
          · rename_i ix hix
            split at e3
            · rename_i hb
              simp only [Option.map_eq_some_iff, Prod.mk.injEq] at e3
              obtain ⟨d', e4, rfl, rfl⟩ := e3
              obtain ⟨w, e5, hw⟩ := d4'.get e4
              have h2 := h1.mut (xs := ys'.eraseIdx ix) (ds := l.eraseIdx ix) e2 (Nat.le_trans (List.length_eraseIdx_le _ _) d3') (d4'.erase ix)
              have hne : ow i ≠ ow j := fun e => hc.1 (h1.inj i j _ _ e1 e2 e)
              have e6 : geti (sets env j (.o (.list (l.eraseIdx ix)))) i = .o (.list m) := by
                rw [geti_sets]
                rw [if_neg (fun z => hc.1 z.1.symm)]
                exact e1
              obtain ⟨xs2, f1, f2, f3, f4⟩ := h2.cell e6
              have hl := f4.length
              have hcap : cap < sizeLine := by rw [sizeLine_eq]; decide
              have sub : ∀ a, Av A (sets env j (.o (.list (l.eraseIdx ix)))) ow a → Av A env ow a := fun a z => by
                rcases z with z | ⟨jj, dd, z, zz⟩
                · exact .inl z
                · rw [geti_sets] at z
                  split at z
                  · rename_i c
                    exact .inr ⟨j, _, e2, by rw [c.1]; exact zz⟩
                  · exact .inr ⟨jj, _, z, zz⟩
              refine ⟨ow j, ys', kk, ix, w, rfl, rfl, d2', by have := Nat.le_of_ble_eq_true hb; omega, by have := Nat.le_of_ble_eq_true hb; omega, by rw [d4'.length]; exact hix, e5, ow i, xs2, w, rfl, rfl, f2, by omega, q _ _ ⟨ow, h2.mut e6 (by rw [List.length_append]; simp; omega) (f4.append (.cons (Rp.keep (h1.keepMut e2) (fun a z => .inl (sub a z)) _ _ hw) .nil))⟩⟩
            · cases e3
          · cases e3
        · exact q.elim
    | _ => exact q.elim
  · exact q.elim
/-! ### raise, try -/
theorem s_raise {c m : Str} {j : Nat} {pc pm cp : Pos} (ok : OkT g k true sc X p) (hg : glB sc c = true) (hc : c ∈ g.ecs) (hd : (c == ("__debug__" : Str)) = false) : PS X (.Raise (some (.Call (.Name c pc) [.Constant (.str m) j pm] [] cp)) none pos) (tS p (evS p.Φ fu (.raise c))) := by
  have C := ok.lk.cl c hc
  refine PS.imp (L2.ps_raise ok.cal ok.tk (pmk_own PySem.F.excBase_ValueError C.mke C.gl C.kp (raises_own C.sb C.ty) (gl_of ok.sc hg) hd)) fun D σ H ⟨H0, A, env, h, q⟩ => ?_
  simp only [evS] at q
  exact q σ H h
end
end PC

set_option Elab.async false
set_option linter.all false
/-! PC14: try; every statement; a def's body. -/
namespace PC
open PySem PySem.Spec PyProof.Rows L2
section
variable {p p' : Pm} {H0 H H' : Hp} {A : Addr → Prop} {env : Env} {σ : L2.St} {ow : Nat → Addr} {i : Nat}
theorem SRo.setQ {x : Sl} {w : Option V} (h : SRo p H0 A env σ H ow) (hnl : p'.nl = p.nl) (ho : ∀ d, x ≠ .o d) (hf : ∀ d, x ≠ .f d) (hx : XS p'.sx (sets env i x) (σ.set i w)) : SRo p' H0 A (sets env i x) (σ.set i w) H ow := by
  have so : ∀ {j s}, geti (sets env i x) j = s → s ≠ x → (j ≠ i ∨ ¬ i < env.length) ∧ geti env j = s := fun {j s} q n => by
    rw [geti_sets] at q
    by_cases c : i = j ∧ i < env.length
    · rw [if_pos c] at q
      exact absurd q.symm n
    · rw [if_neg c] at q
      refine ⟨?_, q⟩
      by_cases c1 : i = j
      · exact .inr fun z => c ⟨c1, z⟩
      · exact .inl fun z => c1 z.symm
  have sub : ∀ a, Av A (sets env i x) ow a → Av A env ow a := fun a q => by
    rcases q with q | ⟨j, e, q, z⟩
    · exact .inl q
    · exact .inr ⟨j, e, (so q (ho e).symm).2, z⟩
  have sg : ∀ {j : Nat} {v : Option (Option V)}, (j ≠ i ∨ ¬ i < env.length) → σ[j]? = v → (σ.set i w)[j]? = v := fun {j v} c q => by
    rcases c with c | c
    · rw [List.getElem?_set_ne (Ne.symm c)]; exact q
    · rw [h.elen, ← h.len] at c
      rw [List.set_eq_of_length_le (by omega)]; exact q
  refine ⟨h.same, h.dom, by rw [List.length_set, hnl]; exact h.len, by rw [sets_length, hnl]; exact h.elen, fun j e q => ?_, fun j k e e' q q' z => h.inj j k e e' (so q (ho e).symm).2 (so q' (ho e').symm).2 z, fun j e q => ?_, hx⟩
  · obtain ⟨n, q⟩ := so q (ho e).symm
    obtain ⟨e1, e0, xs, ds, e3, e2, z, r⟩ := h.own j e q
    exact ⟨sg n e1, e0, xs, ds, e3, e2, z, RpA.less sub _ _ r⟩
  · obtain ⟨n, q⟩ := so q (hf e).symm
    obtain ⟨v, e1, r⟩ := h.frz j e q
    exact ⟨v, sg n e1, Rp.less sub _ _ r⟩
theorem SRo.conv (h : SRo p H0 A env σ H ow) (hnl : p'.nl = p.nl) (hsx : p'.sx = p.sx) : SRo p' H0 A env σ H ow := ⟨h.same, h.dom, by rw [hnl]; exact h.len, by rw [hnl]; exact h.elen, h.own, h.inj, h.frz, by rw [hsx]; exact h.xs⟩
theorem SR.conv (h : SR p H0 A env σ H) (hnl : p'.nl = p.nl) (hsx : p'.sx = p.sx) : SR p' H0 A env σ H := h.imp fun _ h => h.conv hnl hsx
theorem SRo.setX {c : Str} {a : Addr} (h : SRo p H0 A env σ H ow) (hn : p.sx = none) (hi : i < p.nl) (hnl : p'.nl = p.nl) (hsx : p'.sx = some (i, c, a)) : SRo p' H0 A (sets env i (.x c)) (σ.set i (some (.ref a))) H ow := by
  refine h.setQ hnl (fun d q => by cases q) (fun d q => by cases q) fun j c' e => ?_
  rw [geti_sets] at e
  by_cases c1 : i = j
  · subst c1
    have c2 : i < env.length := by rw [h.elen]; exact hi
    simp only [c2, and_self, if_true] at e
    cases e
    exact ⟨a, hsx, List.getElem?_set_self (by rw [h.len]; exact hi)⟩
  · simp only [c1, false_and, if_false] at e
    obtain ⟨_, e2, _⟩ := h.xs j c' e
    rw [hn] at e2; cases e2
theorem SRo.setU {c : Str} {a : Addr} (h : SRo p' H0 A env σ H ow) (hsx : p'.sx = some (i, c, a)) (hnl : p.nl = p'.nl) : SRo p H0 A (sets env i .u) (σ.set i none) H ow := by
  refine h.setQ hnl (fun d q => by cases q) (fun d q => by cases q) fun j c' e => ?_
  exfalso
  rw [geti_sets] at e
  split at e
  · cases e
  · rename_i c1
    obtain ⟨a', e2, e3⟩ := h.xs j c' e
    rw [hsx] at e2
    cases e2
    refine c1 ⟨rfl, ?_⟩
    rw [h.elen, ← h.len]
    exact (List.getElem?_eq_some_iff.mp e3).1
end
section
variable {g : G} {k n fu : Nat} {cm : Bool} {sc : Scope} {X : Cx} {p : Pm} {pos : Pos}
theorem OkT.tr (ok : OkT g k true sc X p) {W : WX} {pn : List (Addr × Obj)} {xe : Value → Shared → Prop} (tk : Takes (X.tr pn xe) W) (po : PassesOwn (model X.prog X.w) X.A X.env xe) : OkT g k true sc (X.tr pn xe) { p with W := W } where
  hN := ok.hN
  nl := ok.nl
  nd := ok.nd
  sc := ok.sc
  cal := ok.cal
  room := ok.room
  un := ok.un
  lk := ok.lk
  tk := tk
  nosx := ok.nosx
  sx := fun i c a e => by
    have e2 := ok.nosx rfl
    have e : p.sx = some (i, c, a) := e
    rw [e2] at e; cases e
  hs := ok.hs
  hf := ok.hf
  st := ok.st
  po := po
theorem OkT.suite0 (ok : OkT g k true sc X p) {a : Addr} {pn : List (Addr × Obj)} : OkT g k false sc (X.suite a pn) { p with W := fun _ _ _ _ => False, sx := none } where
  hN := ok.hN
  nl := ok.nl
  nd := ok.nd
  sc := ok.sc
  cal := rfl
  room := fun e => by cases e
  un := ok.un
  lk := ok.lk
  tk := takes0
  nosx := fun e => by cases e
  sx := fun i c a e => by cases e
  hs := ok.hs
  hf := ok.hf
  st := ok.st
  po := PassesOwn.never
theorem OkT.suite (ok : OkT g k true sc X p) {a : Addr} {oe : Obj} {pn : List (Addr × Obj)} {i : Nat} {c : Str} (hc : c ∈ g.ecs) (hz : Zc (.ref (p.ec c)) none oe) (hd : ∃ vs, oe.data = .fields vs) :
    OkT g k false sc (X.suite a ((a, oe) :: pn)) { p with W := fun _ _ _ _ => False, sx := some (i, c, a) } where
  hN := ok.hN
  nl := ok.nl
  nd := ok.nd
  sc := ok.sc
  cal := rfl
  room := fun e => by cases e
  un := ok.un
  lk := ok.lk
  tk := takes0
  nosx := fun e => by cases e
  sx := fun i' c' a' e => by
    cases e
    exact ⟨hc, X, oe, pn, rfl, hz, hd⟩
  hs := ok.hs
  hf := ok.hf
  st := ok.st
  po := PassesOwn.never
theorem s_try0 {c : Str} {np pos' : Pos} {b : List Stmt} {s0 : Stmt} {su : List Stmt} {y z : List S} (ok : OkT g k true sc X p) (hg : glB sc c = true) (hc : c ∈ g.ecs) (hd : (c == ("__debug__" : Str)) = false)
    (hb : ∀ X' p', OkT g k true sc X' p' → p'.Φ = p.Φ → PSs X' b (tS p' (evSs p'.Φ fu y))) (hsu : ∀ X' p', OkT g k false sc X' p' → p'.Φ = p.Φ → PSs X' (s0 :: su) (tS p' (evSs p'.Φ fu z))) :
    PS X (.Try b [.ExceptHandler (some (.Name c np)) none (s0 :: su) pos'] [] [] pos) (tS p (evS p.Φ fu (.try_ y g.ecs c none z))) := by
  refine PS.imp (ps_try_only (c := .ref (p.ec c)) (Wout := p.W) (tb := fun W => tS { p with W := W } (evSs p.Φ fu y)) (ts := fun _ _ _ => tS { p with W := fun _ _ _ _ => False, sx := none } (evSs p.Φ fu z)) ok.hs ok.hf ⟨gl_of ok.sc hg, hd, .inl (ok.lk.cl c hc).gl⟩ ok.tk
    (fun W pn xe tk po => hb _ _ (ok.tr tk po) rfl) (fun a oe cls d pn hz hdd => hsu _ _ (ok.suite0) rfl)) fun D σ H ⟨H0, A, env, h, q⟩ => ?_
  simp only [evS] at q
  refine ⟨H0, A, env, h.conv rfl rfl, ?_⟩
  have nosx := ok.nosx rfl
  cases e : evSs p.Φ fu y env with
  | nx env1 => rw [e] at q; exact fun σ' H' h' => q σ' H' (h'.conv rfl rfl)
  | bk env1 => rw [e] at q; exact fun σ' H' h' => q σ' H' (h'.conv rfl rfl)
  | rt d => rw [e] at q; exact q
  | st => rw [e] at q; exact q
  | ex kk env1 =>
    rw [e] at q
    intro σ' H' h'
    have h' : SR p H0 A env1 σ' H' := h'.conv rfl rfl
    simp only at q
    split at q
    · rename_i hkk
      have hkk : kk ∈ g.ecs := by simpa using hkk
      refine ⟨subC kk c, ok.lk.ex kk c hkk hc, fun e2 a na => ?_, fun e2 => ?_⟩
      · rw [if_pos e2] at q
        refine ⟨H0, A, env1, h'.conv rfl nosx.symm, ?_⟩
        · have cv : ∀ {env2 σ2 H2}, SR { p with W := fun _ _ _ _ => False, sx := none } H0 A env2 σ2 H2 → SR p H0 A env2 σ2 H2 := fun h => h.conv rfl nosx
          cases e3 : evSs p.Φ fu z env1 with
          | nx env2 => rw [e3] at q; exact fun σ2 H2 h2 => q σ2 H2 (cv h2)
          | bk env2 => rw [e3] at q; exact fun σ2 H2 h2 => q σ2 H2 (cv h2)
          | rt d => rw [e3] at q; exact q
          | st => rw [e3] at q; exact q.elim
          | ex k2 env2 => rw [e3] at q; exact q.elim
      · rw [if_neg (by rw [e2]; decide)] at q
        exact q σ' H' h'
    · exact q.elim
theorem s_try1 {c v : Str} {i : Nat} {np pos' : Pos} {b : List Stmt} {s0 : Stmt} {su : List Stmt} {y z : List S} (ok : OkT g k true sc X p) (hg : glB sc c = true) (hc : c ∈ g.ecs) (hd : (c == ("__debug__" : Str)) = false) (hi : ix? v g.N 0 = some i) (hv : sc.names.lookup v = some .local)
    (hb : ∀ X' p', OkT g k true sc X' p' → p'.Φ = p.Φ → PSs X' b (tS p' (evSs p'.Φ fu y))) (hsu : ∀ X' p', OkT g k false sc X' p' → p'.Φ = p.Φ → PSs X' (s0 :: su) (tS p' (evSs p'.Φ fu z))) :
    PS X (.Try b [.ExceptHandler (some (.Name c np)) (some v) (s0 :: su) pos'] [] [] pos) (tS p (evS p.Φ fu (.try_ y g.ecs c (some i) z))) := by
  have hN : X.N.Nodup := by rw [ok.hN]; exact ok.nd
  have hi2 : X.N[i]? = some v := by rw [ok.hN]; exact ix?_zero hi
  have hil : i < p.nl := by rw [ok.nl]; exact ix?_lt hi
  refine PS.imp (L2.ps_try_as (c := .ref (p.ec c)) (Wout := p.W) (tb := fun W => tS { p with W := W } (evSs p.Φ fu y))
    (ts := fun a cls d => fun D σ H => ∃ kk, kk ∈ g.ecs ∧ cls = .ref (p.ec kk) ∧ d = none ∧ tS { p with W := fun _ _ _ _ => False, sx := some (i, kk, a) } (evSs p.Φ fu z) D σ H) ok.hs ok.hf hN hi2 (by show X.env.scope.names.lookup v = _; rw [ok.sc]; exact hv) ⟨gl_of ok.sc hg, hd, .inl (ok.lk.cl c hc).gl⟩ ok.tk
    (fun W pn xe tk po => hb _ _ (ok.tr tk po) rfl) (fun a oe cls d pn hz hdd => ⟨fun pins s σ H D I ⟨kk, hk, e1, e2, q⟩ => by
      subst e1 e2
      exact (hsu _ _ (ok.suite hk hz hdd) rfl).run pins s σ H D I q⟩)) fun D σ H ⟨H0, A, env, h, q⟩ => ?_
  simp only [evS] at q
  refine ⟨H0, A, env, h.conv rfl rfl, ?_⟩
  have nosx := ok.nosx rfl
  cases e : evSs p.Φ fu y env with
  | nx env1 => rw [e] at q; exact fun σ' H' h' => q σ' H' (h'.conv rfl rfl)
  | bk env1 => rw [e] at q; exact fun σ' H' h' => q σ' H' (h'.conv rfl rfl)
  | rt d => rw [e] at q; exact q
  | st => rw [e] at q; exact q
  | ex kk env1 =>
    rw [e] at q
    intro σ' H' h'
    have h' : SR p H0 A env1 σ' H' := h'.conv rfl rfl
    simp only at q
    split at q
    · rename_i hkk
      have hkk : kk ∈ g.ecs := by simpa using hkk
      refine ⟨subC kk c, ok.lk.ex kk c hkk hc, fun e2 a na => ?_, fun e2 => ?_⟩
      · rw [if_pos e2] at q
        obtain ⟨ow, h'⟩ := h'
        refine ⟨kk, hkk, rfl, rfl, H0, A, sets env1 i (.x kk), ⟨ow, h'.setX nosx hil rfl rfl⟩, ?_⟩
        have cv : ∀ {env2 σ2 H2}, SR { p with W := fun _ _ _ _ => False, sx := some (i, kk, a) } H0 A env2 σ2 H2 → SR p H0 A (sets env2 i .u) (σ2.set i none) H2 := fun ⟨ow, h⟩ => ⟨ow, h.setU rfl rfl⟩
        show Endo _ H0 A _ (evSs p.Φ fu z (sets env1 i (.x kk)))
        cases e3 : evSs p.Φ fu z (sets env1 i (.x kk)) with
        | nx env2 => rw [e3] at q; exact fun σ2 H2 h2 => q _ H2 (cv h2)
        | bk env2 => rw [e3] at q; exact fun σ2 H2 h2 => q _ H2 (cv h2)
        | rt d => rw [e3] at q; exact q
        | st => rw [e3] at q; exact q.elim
        | ex k2 env2 => rw [e3] at q; exact q.elim
      · rw [if_neg (by rw [e2]; decide)] at q
        exact q σ' H' h'
    · exact q.elim
end
end PC

set_option Elab.async false
set_option linter.all false
/-! PC15: every statement. -/
namespace PC
open PySem PySem.Spec PyProof.Rows L2
structure SndS (g : G) (k fu n : Nat) : Prop where
  s : ∀ cm sc st ir X p, OkT g k cm sc X p → cS g n cm sc st = some ir → PS X st (tS p (evS p.Φ fu ir))
  ss : ∀ cm sc sts ir X p, OkT g k cm sc X p → cSs g n cm sc sts = some ir → PSs X sts (tS p (evSs p.Φ fu ir))
theorem sndS_ss {g : G} {k fu n : Nat} (IH : SndS g k fu n) : ∀ cm sc sts ir X p, OkT g k cm sc X p → cSs g (n + 1) cm sc sts = some ir → PSs X sts (tS p (evSs p.Φ fu ir)) := by
  intro cm sc sts ir X p ok h
  cases sts with
  | nil => simp only [cSs, Option.some.injEq] at h; subst h; exact s_nil
  | cons s r =>
    simp only [cSs, Option.bind_eq_some_iff, Option.map_eq_some_iff] at h
    obtain ⟨x, hx, y, hy, rfl⟩ := h
    exact s_cons (IH.s _ _ _ _ _ _ ok hx) (IH.ss _ _ _ _ _ _ ok hy)
theorem sndS_s {g : G} {k fu n : Nat} (IH : SndS g k fu n) : ∀ cm sc st ir X p, OkT g k cm sc X p → cS g (n + 1) cm sc st = some ir → PS X st (tS p (evS p.Φ fu ir)) := by
  intro cm sc st ir X p ok h
  unfold cS at h
  split at h
  · rename_i t e pos
    simp only [Option.bind_eq_some_iff] at h
    obtain ⟨tt, ht, x, hx, h⟩ := h
    split at h
    · rename_i i
      split at h
      · cases h
      rename_i c
      cases h
      simp only [Bool.or_eq_true, Bool.and_eq_true, Bool.not_eq_true', not_or, not_and, Bool.not_eq_true, Bool.not_eq_false] at c
      unfold cT at ht
      split at ht
      · split at ht
        · split at ht
          · rename_i hi hl
            cases ht
            exact s_asg1 ok hi hl hx c.1 c.2
          · cases ht
        · cases ht
      · simp only [Option.map_eq_some_iff] at ht
        obtain ⟨_, _, q⟩ := ht
        cases q
      · cases ht
    · rename_i is
      split at h
      · rename_i c
        subst c
        split at h
        · cases h
        · rename_i hne
          cases h
          exact s_asgT ok ht (fun es j q e => hne es j q e) hx
      · cases h
  · rename_i x px o e pos
    split at h
    · rename_i i hi
      split at h
      · rename_i hl
        simp only [Option.bind_eq_some_iff, Option.map_eq_some_iff] at h
        obtain ⟨o', ho, y, hy, rfl⟩ := h
        exact s_aug ok hi hl ho hy
      · cases h
    · cases h
  · rename_i x px m ap args cp pos
    split at h
    · cases h
    rename_i c
    simp only [Bool.or_eq_true, not_or, Bool.not_eq_true', Bool.not_eq_true, Bool.not_eq_false] at c
    obtain ⟨⟨c1, c2⟩, c3⟩ := c
    split at h
    · rename_i i hi
      split at h
      · cases h
      rename_i hv
      simp only [Bool.not_eq_true', Bool.not_eq_false] at hv
      split at h
      · rename_i a
        split at h
        · rename_i hm
          have hm := eq_of_beq hm
          subst hm
          split at h
          · rename_i j b hp
            simp only [Option.map_eq_some_iff] at h
            obtain ⟨z, hz, rfl⟩ := h
            exact s_appPop ok hi hv c2 c3 c1 hp hz
          · simp only [Option.map_eq_some_iff] at h
            obtain ⟨z, hz, rfl⟩ := h
            exact s_app ok hi hv c2 c3 c1 hz
        · split at h
          · rename_i hm
            have hm := eq_of_beq hm
            subst hm
            simp only [Option.map_eq_some_iff] at h
            obtain ⟨z, hz, rfl⟩ := h
            exact s_ext ok hi hv c2 c3 c1 hz
          · split at h
            · rename_i hm
              have hm := eq_of_beq hm
              subst hm
              simp only [Option.map_eq_some_iff] at h
              obtain ⟨z, hz, rfl⟩ := h
              exact s_rem ok hi hv c2 c3 c1 hz
            · cases h
      · split at h
        · rename_i hm
          have hm := eq_of_beq hm
          subst hm
          cases h
          exact s_rvs ok hi hv c2 c3 c1
        · split at h
          · rename_i hm
            have hm := eq_of_beq hm
            subst hm
            cases h
            exact s_srt ok hi hv c2 c3 c1
          · cases h
      · split at h
        · rename_i hm
          have hm := eq_of_beq hm
          subst hm
          simp only [Option.bind_eq_some_iff, Option.map_eq_some_iff] at h
          obtain ⟨z, hz, y, hy, rfl⟩ := h
          exact s_ins ok hi hv c2 c3 c1 hz hy
        · cases h
      · cases h
    · cases h
  · rename_i e pos _
    split at h
    · cases h
    · rename_i hne
      simp only [Option.map_eq_some_iff] at h
      obtain ⟨x, hx, rfl⟩ := h
      have hs : ∀ l, swapsWith e none l X.env = pure false := fun l => by
        cases n with
        | zero => simp [cE] at hx
        | succ n => cases e <;> first | rfl | exact absurd rfl (hne _ _ _ _) | (simp [cE] at hx; done)
      refine PS.imp (ps_expr ((snd n).e _ _ _ _ _ _ ok.toOkX hx) (hs _)) fun D σ H ⟨H0, A, env, ⟨ow, hh⟩, q⟩ => ?_
      simp only [evS] at q
      exact ⟨_, env, hh.pre _, (onR_use hh q).mono fun d H1 s ⟨h1, q⟩ v hv => q _ _ ⟨ow, h1⟩⟩
  · simp only [Option.bind_eq_some_iff, Option.map_eq_some_iff] at h
    obtain ⟨x, hx, y, hy, z, hz, rfl⟩ := h
    exact s_if ((snd n).t _ _ _ _ _ _ ok.toOkX hx) (IH.ss _ _ _ _ _ _ ok hy) (IH.ss _ _ _ _ _ _ ok hz)
  · rename_i t it b pos
    split at h
    · cases h
    rename_i c
    simp only [Bool.not_eq_true', Bool.not_eq_false] at c
    subst c
    simp only [Option.bind_eq_some_iff, Option.map_eq_some_iff] at h
    obtain ⟨tt, ht, i, hi, y, hy, rfl⟩ := h
    exact s_for ok.po ok.cal ((snd n).i _ _ _ _ _ _ _ ok.toOkX hi) (cT_ok ok.hN ok.nd (.inl ok.cal) ok.st ht) (fun i hi => by rw [ok.nl]; exact cT_lt ht i hi) (fold_of hi X.env) (IH.ss _ _ _ _ _ _ ok hy)
  · simp only [Option.bind_eq_some_iff, Option.map_eq_some_iff] at h
    obtain ⟨x, hx, y, hy, rfl⟩ := h
    exact s_while ok.po ((snd n).t _ _ _ _ _ _ ok.toOkX hx) (IH.ss _ _ _ _ _ _ ok hy)
  · simp only [Option.map_eq_some_iff] at h
    obtain ⟨x, hx, rfl⟩ := h
    exact s_ret ((snd n).e _ _ _ _ _ _ ok.toOkX hx)
  · cases h; exact s_retN
  · split at h
    · rename_i c
      simp only [Bool.and_eq_true, Bool.not_eq_true'] at c
      obtain ⟨⟨⟨rfl, c2⟩, c3⟩, c4⟩ := c
      cases h
      exact s_raise ok c2 (by simpa using c3) c4
    · cases h
  · cases h; exact s_brk
  · cases h; exact s_pas
  · rename_i b c np nm s0 su pos' pos
    split at h
    · cases h
    rename_i cc
    simp only [Bool.or_eq_true, not_or, Bool.not_eq_true', Bool.not_eq_true, Bool.not_eq_false] at cc
    obtain ⟨⟨⟨rfl, c2⟩, c3⟩, c4⟩ := cc
    have c3 : c ∈ g.ecs := by simpa using c3
    simp only [Option.bind_eq_some_iff] at h
    obtain ⟨y, hy, z, hz, h⟩ := h
    have hb : ∀ X' p', OkT g k true sc X' p' → p'.Φ = p.Φ → PSs X' b (tS p' (evSs p'.Φ fu y)) := fun X' p' ok' _ => IH.ss _ _ _ _ _ _ ok' hy
    have hsu : ∀ X' p', OkT g k false sc X' p' → p'.Φ = p.Φ → PSs X' (s0 :: su) (tS p' (evSs p'.Φ fu z)) := fun X' p' ok' _ => IH.ss _ _ _ _ _ _ ok' hz
    split at h
    · cases h
      exact s_try0 ok c2 c3 c4 hb hsu
    · split at h
      · rename_i hi hv
        cases h
        exact s_try1 ok c2 c3 c4 hi hv hb hsu
      · cases h
  · cases h
theorem sndS {g : G} {k fu : Nat} : ∀ n, SndS g k fu n
  | 0 => ⟨fun _ _ _ _ _ _ _ h => by simp [cS] at h, fun _ _ _ _ _ _ _ h => by simp [cSs] at h⟩
  | n + 1 => ⟨sndS_s (sndS n), sndS_ss (sndS n)⟩
end PC

set_option Elab.async false
set_option linter.all false
/-! PC16: defs, the table of the module's functions, a law's end. -/
namespace PC
open PySem PySem.Spec PyProof.Rows L2
theorem geti_args : ∀ (ds : List D) (m i : Nat) (s : Sl), geti (ds.map Sl.f ++ List.replicate m .u) i = s → s = .u ∨ ∃ d, s = .f d ∧ ds[i]? = some d
  | [], 0, i, s, h => by subst h; simp [geti]
  | [], m + 1, 0, s, h => by subst h; simp [geti, List.replicate_succ]
  | [], m + 1, i + 1, s, h => by
    simp only [List.map_nil, List.nil_append, List.replicate_succ, geti] at h
    have := geti_args [] m i s (by simpa using h)
    rcases this with h | ⟨d, _, h⟩
    · exact .inl h
    · simp at h
  | d :: ds, m, 0, s, h => by
    simp only [List.map_cons, List.cons_append, geti] at h
    exact .inr ⟨d, h.symm, by simp⟩
  | d :: ds, m, i + 1, s, h => by
    simp only [List.map_cons, List.cons_append, geti] at h
    have := geti_args ds m i s h
    simpa using this
section
variable {g : G} {ec : Str → Addr} {P : Program} {w : World} {K : PySem.W.Frag} {mg : Str → Option Value} {base : Heap} {k fu : Nat} {Φ : Phi}
theorem okT_def {N : List Str} {qual : Str} {scope : Scope} {f : Addr} {cdv : Value} {A : Around} {outer : List PySem.Env} {s : Shared} {H : Hp} {E : XK} (hnd : N.Nodup) (lk : Lk { g with N := N } Φ ec P w K mg base k)
    (hr : Room k (A.deeper (envOfC qual scope s.heap.objs.size f cdv))) :
    OkT { g with N := N } k true scope (cxOf (L2.CX P w) P w K mg base N qual scope f cdv A outer s H E) ⟨Φ, ec, fun cls d _ H => E cls d H, none, N.length⟩ where
  hN := rfl
  nl := rfl
  nd := hnd
  sc := rfl
  cal := rfl
  room := fun _ => hr
  un := by have := hr.un; show (A.deeper (envOfC qual scope s.heap.objs.size f cdv)).units + 150 < cLine; omega
  lk := lk
  tk := takes_of rfl rfl rfl rfl
  nosx := fun _ => rfl
  sx := fun i c a e => by cases e
  hs := rfl
  hf := rfl
  st := fun x h => ⟨loc_of h, .inl rfl⟩
  po := passes_of rfl
theorem sr_start {p : Pm} {H : Hp} {A : Addr → Prop} {N : List Str} {vs : List V} {ds : List D} (hnl : p.nl = N.length) (hsx : p.sx = none) (tr : Trk A H) (r : RpA A H vs ds) (hl : ds.length ≤ N.length) :
    SR p H A (ds.map .f ++ List.replicate (N.length - ds.length) .u) (L2.start N vs) H := by
  have hv := r.length
  refine ⟨fun _ => 0, Same.refl H, tr, ?_, ?_, fun i d e => ?_, fun i j d e h1 h2 q => ?_, fun i d e => ?_, fun i c e => ?_⟩
  · unfold L2.start
    rw [hnl, List.length_append, List.length_map, List.length_replicate]
    omega
  · rw [hnl, List.length_append, List.length_map, List.length_replicate]
    omega
  · rcases geti_args ds _ i _ e with h | ⟨_, h, _⟩ <;> cases h
  · rcases geti_args ds _ i _ h1 with h | ⟨_, h, _⟩ <;> cases h
  · rcases geti_args ds _ i _ e with h | ⟨d', h, h2⟩
    · cases h
    · cases h
      obtain ⟨v, e1, e2⟩ := r.get h2
      refine ⟨v, ?_, Rp.less (fun a q => ?_) _ _ e2⟩
      · unfold L2.start
        rw [List.getElem?_append_left (by rw [List.length_map]; exact (List.getElem?_eq_some_iff.mp e1).1), List.getElem?_map, e1]
        rfl
      · rcases q with q | ⟨j, d', e3, _⟩
        · exact q
        · rcases geti_args ds _ j _ e3 with h | ⟨_, h, _⟩ <;> cases h
  · rcases geti_args ds _ i _ e with h | ⟨_, h, _⟩ <;> cases h
/-- a def keeps what its body's evaluation tells -/
theorem fn_ok {N ps : List Str} {x qual : Str} {params : Arguments} {body : List Stmt} {scope : Scope} {f : Addr} {fd : FuncData} {np n : Nat} {ir : List S} (F : FunD K x qual params body scope [] [] f fd) (Sc : FnScope N ps scope) (hnp : ps.length = np)
    (h : cSs { g with N := N } n true scope body = some ir) (lk : Lk { g with N := N } Φ ec P w K mg base k) : FnOk P w K mg base (L2.CX P w) (k + 1) f fd ps (spOf ec np (runFn Φ fu ⟨np, N.length, ir⟩)) := by
  refine F.ok Sc (fun vs H Q E h => by rw [hnp]; exact h.1) fun cdv A outer s H vs Q E hr hsp => ⟨_, (sndS (fu := fu) n).ss _ _ _ _ _ _ (okT_def Sc.nd lk hr) h, ?_⟩
  obtain ⟨hlen, A', ds, tr, r, q⟩ := hsp
  have hv := r.length
  have hpl : ps.length ≤ N.length := by have := congrArg List.length Sc.pre; rw [List.length_take] at this; omega
  refine ⟨H, A', ds.map .f ++ List.replicate (N.length - ds.length) .u, sr_start rfl rfl tr r (by omega), ?_⟩
  have hd : ds.length = np := by omega
  unfold runFn at q
  rw [if_pos hd] at q
  simp only at q
  rw [← hd] at q
  show Endo _ H A' _ (evSs Φ fu ir _)
  cases e : evSs Φ fu ir (ds.map .f ++ List.replicate (N.length - ds.length) .u) with
  | nx env => rw [e] at q; exact fun σ' H' ⟨ow, h'⟩ => q _ _ h'.same .non
  | rt d => rw [e] at q; exact fun v H' s' r' => q v H' s' r'
  | ex c env => rw [e] at q; exact fun σ' H' ⟨ow, h'⟩ => q _ h'.same
  | bk env => rw [e] at q; exact q.elim
  | st => rw [e] at q; exact q.elim
structure LkS (g : G) (ec : Str → Addr) (K : PySem.W.Frag) (mg : Str → Option Value) : Prop where
  bi : ∀ x, x ∈ biNames → mg x = none
  ci : ∀ x i, g.cis.lookup x = some i → ∃ t, mg x = some (.int i t)
  ct : ∀ x l, g.cts.lookup x = some l → ∃ a, mg x = some (.ref a) ∧ ∀ H, Dp K H (.ref a) (.tuple l)
  cl : ∀ c, c ∈ g.ecs → Cl K mg (ec c) c
  ex : ∀ c d, c ∈ g.ecs → d ∈ g.ecs → PySem.W.exmOne K (.ref (ec c)) (.ref (ec d)) = some (subC c d)
  ix : g.isx = true → ∀ c d, c ∈ g.ecs → d ∈ g.ecs → ExcC K (ec c) ∧ PySem.W.kitOne K (.ref (ec c)) (.ref (ec d)) = some (subC c d)
/-- a def of the module, its body read -/
def DefOk (g : G) (K : PySem.W.Frag) (mg : Str → Option Value) (T : Str → Option Fn) (f : Str) (n : Nat) : Prop :=
  ∃ (fa : Addr) (fd : FuncData) (ps N : List Str) (x qual : Str) (params : Arguments) (body : List Stmt) (scope : Scope) (m : Nat) (ir : List S), mg f = some (.ref fa) ∧ FunD K x qual params body scope [] [] fa fd ∧ (∀ (s : Shared) (us : List Value), us.length = ps.length → BindsTo s fd ⟨us, []⟩ (ps.zip us)) ∧ FnScope N ps scope ∧ ps.length = n ∧
    cSs { g with N := N } m true scope body = some ir ∧ T f = some ⟨n, N.length, ir⟩
theorem Lk.withN {N : List Str} (h : Lk g Φ ec P w K mg base k) : Lk { g with N := N } Φ ec P w K mg base k := ⟨h.fn, h.bi, h.ci, h.ct, h.cl, h.ex, h.ix⟩
theorem binds_of {fd : FuncData} {ps : List Str} (hb : ∀ (s : Shared) (us : List Value), us.length = ps.length → BindsTo s fd ⟨us, []⟩ (ps.zip us)) : Binds K fd ps [] := fun s us _ hl => by
  rw [List.append_nil] at hl ⊢
  exact hb s us hl
theorem lk_all {T : Str → Option Fn} (L : LkS g ec K mg) (D : ∀ f n, g.fns.lookup f = some n → DefOk g K mg T f n) : ∀ k, Lk g (callP T fu k) ec P w K mg base k
  | 0 => by
    refine ⟨fun f n e => ?_, L.bi, L.ci, L.ct, L.cl, L.ex, L.ix⟩
    obtain ⟨fa, fd, ps, N, x, qual, params, body, scope, m, ir, h1, F, hb, Sc, hn, hc, hT⟩ := D f n e
    have no : ∀ vs H Q E, ¬ spOf ec n (callP T fu 0 f) vs H Q E := fun vs H Q E ⟨_, A, ds, _, _, q⟩ => q
    exact ⟨fa, fd, ps, h1, F.kp, binds_of hb, hn, ⟨fun vs H Q E h => absurd h (no vs H Q E), fun A outer s H args us vs Q E _ _ _ _ h => absurd h (no vs H Q E)⟩⟩
  | k + 1 => by
    have IH := lk_all L D k
    refine ⟨fun f n e => ?_, L.bi, L.ci, L.ct, L.cl, L.ex, L.ix⟩
    obtain ⟨fa, fd, ps, N, x, qual, params, body, scope, m, ir, h1, F, hb, Sc, hn, hc, hT⟩ := D f n e
    refine ⟨fa, fd, ps, h1, F.kp, binds_of hb, hn, (fn_ok (fu := fu) F Sc hn hc IH.withN).imp fun vs H Q E q => ?_⟩
    have e2 : callP T fu (k + 1) f = runFn (callP T fu k) fu ⟨n, N.length, ir⟩ := by
      funext ds
      unfold callP
      rw [hT]
    rw [e2] at q
    exact q
end
/-! ### the facts of a head -/
def frX (as : PySem.W.Frag) : PySem.W.Frag := as.filter fun p => decide (p.2.cls ≠ .type "list")
theorem lookup_mem {α β : Type} [BEq α] [LawfulBEq α] : ∀ {l : List (α × β)} {a : α} {b : β}, l.lookup a = some b → (a, b) ∈ l
  | (x, y) :: r, a, b, h => by
    rw [List.lookup_cons] at h
    split at h
    · rename_i c
      have c := eq_of_beq c
      cases h
      subst c
      exact List.mem_cons_self
    · exact List.mem_cons_of_mem _ (lookup_mem h)
theorem frG_mem {g : Addr → Option Obj} {a : Addr} {o : Obj} {as : List Addr} (h : (a, o) ∈ He.frG g as) : g a = some o := by
  unfold He.frG at h
  obtain ⟨b, _, e⟩ := List.mem_filterMap.mp h
  cases q : g b with
  | none => rw [q] at e; cases e
  | some o' =>
    rw [q] at e
    cases e
    exact q
def obsX (chk : PySem.W.Frag → Bool) (fn : List He.DefD) (K : PySem.W.Frag) : He.AlD := (chk K && fn.all fun d => d.ok K, fn.map fun d => He.fnW K d.at_)
def SaysX (chk : PySem.W.Frag → Bool) (fn : List He.DefD) (K : PySem.W.Frag) : Prop := (∀ a o, K.lookup a = some o → o.cls ≠ .type "list") ∧ obsX chk fn K = He.valD fn
def obsXG (n : Nat) (chk : PySem.W.Frag → Bool) (fn : List He.DefD) (g : Addr → Option Obj) : He.AlD := obsX chk fn (frX (He.frG g (He.asD g n)))
theorem frX_in {g : Addr → Option Obj} {h : Heap} {as : List Addr} (e : g = h.get?) : (frX (He.frG g as)).In h := fun a o q => by
  have m := lookup_mem q
  unfold frX at m
  have := frG_mem (List.mem_filter.mp m).1
  rw [e] at this
  exact this
def hookX (n : Nat) (chk : PySem.W.Frag → Bool) (fn : List He.DefD) : PySem.W.Hook where
  α := He.AlD
  obs := fun s => obsXG n chk fn s.heap.get?
  val := fun _ => He.valD fn
  says := fun _ h => ∃ K : PySem.W.Frag, K.In h ∧ SaysX chk fn K
  of := fun _ _ e => ⟨_, frX_in rfl, fun a o q => by
    have m := lookup_mem q
    unfold frX at m
    exact of_decide_eq_true (List.mem_filter.mp m).2, e⟩
  keeps := fun _ _ _ ⟨K, hK, c⟩ k => ⟨K, PySem.W.Frag.In.keeps hK k, c⟩
theorem obsXG_eq {n : Nat} {chk : PySem.W.Frag → Bool} {fn : List He.DefD} {g : Addr → Option Obj} {s : Shared} (h : ∀ a, g a = s.heap.get? a) : obsXG n chk fn g = (hookX n chk fn).obs s := by
  have e : g = s.heap.get? := funext h
  rw [e] <;> rfl
section
variable {chk : PySem.W.Frag → Bool} {fn : List He.DefD} {K : PySem.W.Frag}
theorem SaysX.chk_ (c : SaysX chk fn K) : chk K = true := (He.ba (show (_ && fn.all fun d => d.ok K) = true from congrArg (fun z : He.AlD => z.1) c.2)).1
theorem SaysX.def_ (c : SaysX chk fn K) (i : Nat) {d : He.DefD} (h : fn[i]? = some d) : ∃ fd, FunD K d.name d.qual d.params d.body d.scope (d.dvs K) (d.kws K) (He.fAd K d.at_) fd := by
  have c2 := (He.ba (show (_ && fn.all fun d => d.ok K) = true from congrArg (fun z : He.AlD => z.1) c.2)).2
  have e : fn.map (fun d => He.fnW K d.at_) = fn.map He.DefD.val := congrArg (fun z : He.AlD => z.2) c.2
  have e2 : (fn.map fun d => He.fnW K d.at_)[i]? = (fn.map He.DefD.val)[i]? := by rw [e]
  rw [List.getElem?_map, List.getElem?_map, h] at e2
  exact He.DefD.funD (Option.some.inj e2) (List.all_eq_true.mp c2 d (List.mem_of_getElem? h))
end
def dvD : D → He.Dv
  | .int i => .int i
  | .str s => .str s
  | _ => .non
def isStrD : D → Bool
  | .int _ => true
  | .str _ => true
  | _ => false
theorem dp_strs {K : PySem.W.Frag} {H : Hp} : ∀ {l : List D}, l.all isStrD = true → DpAll K H ((l.map dvD).map (He.Dv.v K)) l
  | [], _ => .nil
  | d :: l, h => by
    simp only [List.all_cons, Bool.and_eq_true] at h
    obtain ⟨h1, h2⟩ := h
    refine .cons ?_ (dp_strs h2)
    cases d with
    | int i => exact .int i
    | str s => exact .str s
    | _ => cases h1
def isxB (K : PySem.W.Frag) (c : Str) : Bool := decide (PySem.W.findIn K (.ref (He.ga K c)) "__getattribute__" = some (some (.builtin "BaseException.__getattribute__"))) && (decide (PySem.W.findIn K (.ref (He.ga K c)) "__getattr__" = some none) && (decide (PySem.W.subIn K (.ref (He.ga K c)) (.type "BaseException") = some true) && (PySem.W.hasDictIn K (He.ga K c) && (decide (PySem.W.findIn K (.ref (He.ga K c)) "__class__" = some (some (.builtin "object.__class__"))) && (decide (PySem.W.specialIn K (.builtin "object.__class__") "__get__" = some (some (.builtin "getset_descriptor.__get__"))) && (decide (PySem.W.takesIn K (.builtin "object.__class__") = some true) && decide (PySem.W.mroIn K (He.ga K c) (.type "object") = some true)))))))
theorem isxB_ok {K : PySem.W.Frag} {c : Str} (h : isxB K c = true) : ExcC K (He.ga K c) := by
  unfold isxB at h
  simp only [Bool.and_eq_true, decide_eq_true_eq] at h
  obtain ⟨h1, h2, h3, h4, h5, h6, h7, h8⟩ := h
  exact ⟨h1, h2, h3, h4, h5, h6, h7, h8⟩
/-- what is asked of the head -/
def chkG (g : G) (K : PySem.W.Frag) : Bool := biNames.all (fun x => (He.Fa.free x).ok K) && (g.cis.all (fun p => (He.Fa.int p.1 p.2).ok K) && (g.ecs.all (fun c => (He.Fa.glo c).ok K && (He.Fa.exc c).ok K && g.ecs.all fun d => (He.Fa.exm c d (subC c d)).ok K) && (g.fns.all (fun p => (He.Fa.glo p.1).ok K) && (g.cts.all (fun p => (He.Fa.glo p.1).ok K && (He.tupB K p.1 (p.2.map dvD) && p.2.all isStrD)) && (!g.isx || g.ecs.all fun c => isxB K c && g.ecs.all fun d => decide (PySem.W.kitOne K (.ref (He.ga K c)) (.ref (He.ga K d)) = some (subC c d)))))))
theorem chkG_ok {g : G} {K : PySem.W.Frag} {h : Heap} {mg : Str → Option Value} (X : K.In h) (G : h.Ns mainGlobals mg) (c : chkG g K = true) : LkS g (He.ga K) K mg ∧ ∀ f n, g.fns.lookup f = some n → mg f = some (.ref (He.ga K f)) := by
  unfold chkG at c
  simp only [Bool.and_eq_true, Bool.or_eq_true, List.all_eq_true, Bool.not_eq_true'] at c
  obtain ⟨c1, c2, c3, c4, c5, c6⟩ := c
  refine ⟨⟨fun x hx => He.free_ok X G (c1 x hx), fun x i e => He.int_ok X G (c2 _ (lookup_mem e)), fun x l e => ?_, fun cl hc => ?_, fun cl d hc hd => He.exm_ok ((c3 cl hc).2 d hd), fun e c d hc hd => by
    rcases c6 with c6 | c6
    · rw [c6] at e; cases e
    · obtain ⟨k1, k2⟩ := c6 c hc
      exact ⟨isxB_ok k1, of_decide_eq_true (k2 d hd)⟩⟩, fun f n e => He.glo_ok X G (c4 _ (lookup_mem e))⟩
  · obtain ⟨k1, k2, k3⟩ := c5 _ (lookup_mem e)
    exact ⟨_, He.glo_ok X G k1, fun H => .tup (He.tupB_ok k2 H) (dp_strs (List.all_eq_true.mpr k3))⟩
  · obtain ⟨⟨h1, h2⟩, _⟩ := c3 cl hc
    obtain ⟨k1, k2, k3, k4⟩ := He.exc_ok h2
    exact ⟨He.glo_ok X G h1, k2, k1, k3, k4⟩
/-- a law, by its plain reading -/
theorem walk_PC {l : PySem.W.OpenLaw} {n k : Nat} {q : Program} {loose : List Str} {XP : (Str → Option Value) → Heap → Prop} {d : DefRec} {g : G} {fn : List He.DefD} {T : Str → Option Fn} {fu : Nat} {nm : Str}
    (hn : l.most = some n) (hn2 : n ≤ sizeLine) (hdf : d.params.defaults = []) (hnm : d.name = nm) (hr : Room (k + 1) callerA) (hlaw : g.fns.lookup nm = some 1)
    (hD : ∀ (K : PySem.W.Frag) (mg : Str → Option Value), SaysX (chkG g) fn K → (∀ f n, g.fns.lookup f = some n → mg f = some (.ref (He.ga K f))) → ∀ f n, g.fns.lookup f = some n → DefOk g K mg T f n)
    (hpl : ∀ ns : List Int, ns.length ≤ n → callP T fu (k + 1) nm [.list (ns.map .int)] = .ok (.bool true)) :
    PySem.W.WalkO q loose XP (fun _ h => ∃ K : PySem.W.Frag, K.In h ∧ SaysX (chkG g) fn K) l.row.toRowW d [] (fun f vs => PySem.call f vs) := by
  refine Att.attach_call hn hdf fun w s₀ s₁ mg mb fa o pm cd doc a vs ns G0 Y ho hd hcd hmg hobj hints hlen hg => ?_
  obtain ⟨K, KX, says⟩ := Y
  obtain ⟨L, hglo⟩ := chkG_ok KX G0.T.g says.chk_
  obtain ⟨fa', fd, ps, N, x, qual, params, body, scope, m, ir, h1, F, hb, Sc, hn1, hc, hT⟩ := hD K mg says hglo nm 1 hlaw
  rw [hnm, h1] at hmg
  cases hmg
  match ps, hn1 with
  | [y], _ =>
    refine law_call (CX := L2.CX l.prog w) (x := y) (sp := spOf (He.ga K) 1 (runFn (callP T fu k) fu ⟨1, N.length, ir⟩)) KX G0.T.g G0.T.b G0.T.builtins G0.T.nolimit hg hobj hints (Nat.le_trans hlen hn2) hr
      (fun base _ _ => fn_ok F Sc rfl hc (lk_all L (hD K mg says hglo) k).withN) (fun s u => hb s [u] rfl) (fun H hO hS => ?_) fun H e s' hz => ?_
    · have hS : Rd H a (.lst (ns.map V.int)) := by
        rcases hS with h | ⟨o, its, n, hk, hc, _⟩
        · exact h
        · exact absurd hc (says.1 _ _ hk)
      refine ⟨rfl, fun _ => False, [.list (ns.map .int)], fun a z => z.elim, .cons (.lst id hS (by rw [List.length_map]; exact Nat.le_trans hlen hn2) RpA.ofInts) .nil, ?_⟩
      have e := hpl ns hlen
      unfold callP at e
      rw [hT] at e
      simp only at e
      rw [e]
      intro v H' _ r
      cases r
      rfl
    · obtain ⟨_, _, _, _, _, _, _, _, _, _, _, _, z⟩ := hz
      exact z
end PC

set_option Elab.async false
set_option linter.all false
/-! PL1: how the evaluator runs. -/
namespace PC
open PySem
theorem callP_succ {T : Str → Option Fn} {fu k : Nat} {f : Str} {fn : Fn} (h : T f = some fn) (ds : List D) : callP T fu (k + 1) f ds = runFn (callP T fu k) fu fn ds := by
  show (match T f with | some fn => runFn (callP T fu k) fu fn ds | none => .st) = _
  rw [h]
@[simp] theorem bind_ok {α β : Type} {a : α} {f : α → R β} : (R.ok a).bind f = f a := rfl
@[simp] theorem bind_ex {α β : Type} {c : Str} {f : α → R β} : (R.ex c).bind f = .ex c := rfl
@[simp] theorem bind_st {α β : Type} {f : α → R β} : (R.st : R α).bind f = .st := rfl
@[simp] theorem onR_ok {α : Type} {a : α} {env : Env} {k : α → Out} : onR (.ok a) env k = k a := rfl
@[simp] theorem onR_ex {α : Type} {c : Str} {env : Env} {k : α → Out} : onR (.ex c) env k = .ex c env := rfl
@[simp] theorem onR_st {α : Type} {env : Env} {k : α → Out} : onR (.st : R α) env k = .st := rfl
@[simp] theorem z_ss0 {Φ : Phi} {fu : Nat} {env : Env} : evSs Φ fu [] env = .nx env := by first | rfl | simp only [evSs, evS, evE, evs, evC, evO, evT, evI]
@[simp] theorem z_ss1 {Φ : Phi} {fu : Nat} {env : Env} {s : S} {r : List S} : evSs Φ fu (s :: r) env = (match evS Φ fu s env with | .nx env1 => evSs Φ fu r env1 | o => o) := by first | rfl | simp only [evSs, evS, evE, evs, evC, evO, evT, evI]
@[simp] theorem z_asg1 {Φ : Phi} {fu : Nat} {env : Env} {i : Nat} {e : E} : evS Φ fu (.asg (.n i) e) env = onR (evE Φ e env) env fun d => .nx (putS e i d env) := by first | rfl | simp only [evSs, evS, evE, evs, evC, evO, evT, evI]
@[simp] theorem z_asgT {Φ : Phi} {fu : Nat} {env : Env} {is : List Nat} {e : E} : evS Φ fu (.asg (.t is) e) env = onR (evE Φ e env) env fun d => match asgT (.t is) d (shr e.vars d env) with | some env1 => .nx env1 | none => .st := by first | rfl | simp only [evSs, evS, evE, evs, evC, evO, evT, evI]
@[simp] theorem z_ite {Φ : Phi} {fu : Nat} {env : Env} {c : E} {a b : List S} : evS Φ fu (.ite c a b) env = onR (toB (evE Φ c env)) env fun k => if k then evSs Φ fu a env else evSs Φ fu b env := by first | rfl | simp only [evSs, evS, evE, evs, evC, evO, evT, evI]
@[simp] theorem z_for {Φ : Phi} {fu : Nat} {env : Env} {t : T} {it : I} {b : List S} : evS Φ fu (.for_ t it b) env = onR (evI Φ it env) env fun ds => evFor (evSs Φ fu b) t ds (frzI it ds env) := by first | rfl | simp only [evSs, evS, evE, evs, evC, evO, evT, evI]
@[simp] theorem z_whl {Φ : Phi} {fu : Nat} {env : Env} {c : E} {b : List S} : evS Φ fu (.whl c b) env = evWhl (fun env => toB (evE Φ c env)) (evSs Φ fu b) fu env := by first | rfl | simp only [evSs, evS, evE, evs, evC, evO, evT, evI]
@[simp] theorem z_ret {Φ : Phi} {fu : Nat} {env : Env} {e : E} : evS Φ fu (.ret e) env = onR (evE Φ e env) env fun d => .rt d := by first | rfl | simp only [evSs, evS, evE, evs, evC, evO, evT, evI]
@[simp] theorem z_retN {Φ : Phi} {fu : Nat} {env : Env} : evS Φ fu .retN env = .rt .none := by first | rfl | simp only [evSs, evS, evE, evs, evC, evO, evT, evI]
@[simp] theorem z_raise {Φ : Phi} {fu : Nat} {env : Env} {c : Str} : evS Φ fu (.raise c) env = .ex c env := by first | rfl | simp only [evSs, evS, evE, evs, evC, evO, evT, evI]
@[simp] theorem z_brk {Φ : Phi} {fu : Nat} {env : Env} : evS Φ fu .brk env = .bk env := by first | rfl | simp only [evSs, evS, evE, evs, evC, evO, evT, evI]
@[simp] theorem z_pas {Φ : Phi} {fu : Nat} {env : Env} : evS Φ fu .pas env = .nx env := by first | rfl | simp only [evSs, evS, evE, evs, evC, evO, evT, evI]
@[simp] theorem z_exp {Φ : Phi} {fu : Nat} {env : Env} {e : E} : evS Φ fu (.exp e) env = onR (evE Φ e env) env fun _ => .nx env := by first | rfl | simp only [evSs, evS, evE, evs, evC, evO, evT, evI]
@[simp] theorem z_e_v {Φ : Phi} {env : Env} {i : Nat} : evE Φ (.v i) env = rdS (geti env i) := by first | rfl | simp only [evSs, evS, evE, evs, evC, evO, evT, evI]
@[simp] theorem z_e_int {Φ : Phi} {env : Env} {i : Int} : evE Φ (.int i) env = .ok (.int i) := by first | rfl | simp only [evSs, evS, evE, evs, evC, evO, evT, evI]
@[simp] theorem z_e_str {Φ : Phi} {env : Env} {s : Str} : evE Φ (.str s) env = .ok (.str s) := by first | rfl | simp only [evSs, evS, evE, evs, evC, evO, evT, evI]
@[simp] theorem z_e_bl {Φ : Phi} {env : Env} {b : Bool} : evE Φ (.bl b) env = .ok (.bool b) := by first | rfl | simp only [evSs, evS, evE, evs, evC, evO, evT, evI]
@[simp] theorem z_e_non {Φ : Phi} {env : Env}  : evE Φ .non env = .ok .none := by first | rfl | simp only [evSs, evS, evE, evs, evC, evO, evT, evI]
@[simp] theorem z_e_not {Φ : Phi} {env : Env} {a : E} : evE Φ (.not a) env = flt (notR (toB (evE Φ a env))) := by first | rfl | simp only [evSs, evS, evE, evs, evC, evO, evT, evI]
@[simp] theorem z_e_and {Φ : Phi} {env : Env} {a b : E} : evE Φ (.and a b) env = (toB (evE Φ a env)).bind fun c => if c then (toB (evE Φ b env)).bind fun e => .ok (.bool e) else .ok (.bool false) := by first | rfl | simp only [evSs, evS, evE, evs, evC, evO, evT, evI]
@[simp] theorem z_e_or {Φ : Phi} {env : Env} {a b : E} : evE Φ (.or a b) env = (toB (evE Φ a env)).bind fun c => if c then .ok (.bool true) else (toB (evE Φ b env)).bind fun e => .ok (.bool e) := by first | rfl | simp only [evSs, evS, evE, evs, evC, evO, evT, evI]
@[simp] theorem z_e_op {Φ : Phi} {env : Env} {o : Op} {a b : E} : evE Φ (.op o a b) env = (evE Φ a env).bind fun x => (evE Φ b env).bind fun y => evOp o x y := by first | rfl | simp only [evSs, evS, evE, evs, evC, evO, evT, evI]
@[simp] theorem z_e_cmp {Φ : Phi} {env : Env} {a : E} {r : Cs} : evE Φ (.cmp a r) env = (evE Φ a env).bind fun x => evC Φ r x env := by first | rfl | simp only [evSs, evS, evE, evs, evC, evO, evT, evI]
@[simp] theorem z_e_tup {Φ : Phi} {env : Env} {es : Es} : evE Φ (.tup es) env = (evs Φ es env).bind fun l => .ok (.tuple l) := by first | rfl | simp only [evSs, evS, evE, evs, evC, evO, evT, evI]
@[simp] theorem z_e_lst {Φ : Phi} {env : Env} {es : Es} : evE Φ (.lst es) env = (evs Φ es env).bind fun l => .ok (.list l) := by first | rfl | simp only [evSs, evS, evE, evs, evC, evO, evT, evI]
@[simp] theorem z_e_ix {Φ : Phi} {env : Env} {a b : E} : evE Φ (.ix a b) env = (evE Φ a env).bind fun x => (evE Φ b env).bind fun y => evIx x y := by first | rfl | simp only [evSs, evS, evE, evs, evC, evO, evT, evI]
@[simp] theorem z_e_sl {Φ : Phi} {env : Env} {a : E} {lo hi : Oe} : evE Φ (.sl a lo hi) env = (evE Φ a env).bind fun x => (evO Φ lo env).bind fun i => (evO Φ hi env).bind fun j => evSl x i j := by first | rfl | simp only [evSs, evS, evE, evs, evC, evO, evT, evI]
@[simp] theorem z_e_call {Φ : Phi} {env : Env} {f : Str} {es : Es} : evE Φ (.call f es) env = (evs Φ es env).bind fun l => Φ f l := by first | rfl | simp only [evSs, evS, evE, evs, evC, evO, evT, evI]
@[simp] theorem z_e_bi {Φ : Phi} {env : Env} {b : Bi} {es : Es} : evE Φ (.bi b es) env = (evs Φ es env).bind fun l => evBi b l := by first | rfl | simp only [evSs, evS, evE, evs, evC, evO, evT, evI]
@[simp] theorem z_e_mth {Φ : Phi} {env : Env} {m : Mt} {a b : E} : evE Φ (.mth m a b) env = (evE Φ a env).bind fun x => if mOk m x then (evE Φ b env).bind fun y => evMt m x y else .st := by first | rfl | simp only [evSs, evS, evE, evs, evC, evO, evT, evI]
@[simp] theorem z_es0 {Φ : Phi} {env : Env} : evs Φ .nil env = .ok [] := by first | rfl | simp only [evSs, evS, evE, evs, evC, evO, evT, evI]
@[simp] theorem z_es1 {Φ : Phi} {env : Env} {a : E} {r : Es} : evs Φ (.cons a r) env = (evE Φ a env).bind fun x => (evs Φ r env).bind fun l => .ok (x :: l) := by first | rfl | simp only [evSs, evS, evE, evs, evC, evO, evT, evI]
@[simp] theorem z_c1 {Φ : Phi} {env : Env} {c : Cm} {b : E} {x : D} : evC Φ (.one c b) x env = (evE Φ b env).bind fun y => flt (evCm c x y) := by first | rfl | simp only [evSs, evS, evE, evs, evC, evO, evT, evI]
@[simp] theorem z_c2 {Φ : Phi} {env : Env} {c : Cm} {b : E} {r : Cs} {x : D} : evC Φ (.more c b r) x env = (evE Φ b env).bind fun y => (evCm c x y).bind fun k => if k then evC Φ r y env else .ok (.bool false) := by first | rfl | simp only [evSs, evS, evE, evs, evC, evO, evT, evI]
@[simp] theorem z_o0 {Φ : Phi} {env : Env} : evO Φ .no env = .ok none := by first | rfl | simp only [evSs, evS, evE, evs, evC, evO, evT, evI]
@[simp] theorem z_o1 {Φ : Phi} {env : Env} {a : E} : evO Φ (.yes a) env = (evE Φ a env).bind fun x => match x with | .int i => .ok (some i) | _ => .st := by first | rfl | simp only [evSs, evS, evE, evs, evC, evO, evT, evI]
@[simp] theorem z_t0 {Φ : Phi} {env : Env} : evT Φ .no env = .ok true := by first | rfl | simp only [evSs, evS, evE, evs, evC, evO, evT, evI]
@[simp] theorem z_t1 {Φ : Phi} {env : Env} {a : E} : evT Φ (.yes a) env = toB (evE Φ a env) := by first | rfl | simp only [evSs, evS, evE, evs, evC, evO, evT, evI]
@[simp] theorem z_ie {Φ : Phi} {env : Env} {a : E} : evI Φ (.e a) env = (evE Φ a env).bind seqD := by first | rfl | simp only [evSs, evS, evE, evs, evC, evO, evT, evI]
@[simp] theorem z_i1 {Φ : Phi} {env : Env} {a : E} : evI Φ (.r1 a) env = (evE Φ a env).bind fun x => match x with | .int n => if rgOk 0 n then .ok (rgD 0 n) else .st | _ => .st := by first | rfl | simp only [evSs, evS, evE, evs, evC, evO, evT, evI]
@[simp] theorem z_i2 {Φ : Phi} {env : Env} {a b : E} : evI Φ (.r2 a b) env = (evE Φ a env).bind fun x => (evE Φ b env).bind fun y => match x, y with | .int i, .int j => if rgOk i j then .ok (rgD i j) else .st | _, _ => .st := by first | rfl | simp only [evSs, evS, evE, evs, evC, evO, evT, evI]
@[simp] theorem y_toB_b {b : Bool} : toB (.ok (.bool b)) = .ok b := rfl
@[simp] theorem y_rd_o {d : D} : rdS (.o d) = .ok d := rfl
@[simp] theorem y_rd_f {d : D} : rdS (.f d) = .ok d := rfl
@[simp] theorem y_g0 {s : Sl} {r : Env} : geti (s :: r) 0 = s := rfl
@[simp] theorem y_g1 {s : Sl} {r : Env} {n : Nat} : geti (s :: r) (n + 1) = geti r n := rfl
@[simp] theorem y_s0 {s x : Sl} {r : Env} : sets (s :: r) 0 x = x :: r := rfl
@[simp] theorem y_s1 {s x : Sl} {r : Env} {n : Nat} : sets (s :: r) (n + 1) x = s :: sets r n x := rfl
@[simp] theorem y_as1 {i : Nat} {d : D} {env : Env} : asgT (.n i) d env = some (sets env i (.f d)) := rfl
@[simp] theorem y_asT {is : List Nat} {ds : List D} {env : Env} : asgT (.t is) (.tuple ds) env = setsAll env is ds := rfl
@[simp] theorem y_sa0 {env : Env} : setsAll env [] [] = some env := rfl
@[simp] theorem y_sa1 {env : Env} {i : Nat} {is : List Nat} {d : D} {ds : List D} : setsAll env (i :: is) (d :: ds) = setsAll (sets env i (.f d)) is ds := rfl
@[simp] theorem y_fl {b : Bool} : flt (.ok b) = .ok (.bool b) := rfl
@[simp] theorem y_nr {b : Bool} : notR (.ok b) = .ok (!b) := rfl
@[simp] theorem y_lti {i j : Int} : ltD (.int i) (.int j) = .ok (decide (i < j)) := rfl
@[simp] theorem y_cm1 {a b : D} : evCm .eq a b = eqD a b := rfl
@[simp] theorem y_cm2 {a b : D} : evCm .ne a b = notR (eqD a b) := rfl
@[simp] theorem y_cm3 {a b : D} : evCm .lt a b = ltD a b := rfl
@[simp] theorem y_cm4 {a b : D} : evCm .le a b = notR (ltD b a) := rfl
@[simp] theorem y_cm5 {a b : D} : evCm .gt a b = ltD b a := rfl
@[simp] theorem y_cm6 {a b : D} : evCm .ge a b = notR (ltD a b) := rfl
@[simp] theorem y_cm7 {a b : D} : evCm .in_ a b = inD a b := rfl
@[simp] theorem y_cm8 {a b : D} : evCm .nin a b = notR (inD a b) := rfl
@[simp] theorem y_oa {i j : Int} : evOp .add (.int i) (.int j) = .ok (.int (i + j)) := rfl
@[simp] theorem y_osb {i j : Int} : evOp .sub (.int i) (.int j) = .ok (.int (i - j)) := rfl
@[simp] theorem y_om {i j : Int} : evOp .mul (.int i) (.int j) = if mulOk i j then .ok (.int (i * j)) else .st := rfl
@[simp] theorem y_od {i j : Int} : evOp .div (.int i) (.int j) = if 0 < j ∧ j.natAbs.log2 < 9000 then .ok (.int (i / j)) else .st := rfl
@[simp] theorem y_omd {i j : Int} : evOp .mod (.int i) (.int j) = if 0 < j then .ok (.int (i % j)) else .st := rfl
@[simp] theorem y_bl1 {l : List D} : evBi .len [.list l] = .ok (.int l.length) := rfl
@[simp] theorem y_bl2 {l : List D} : evBi .len [.tuple l] = .ok (.int l.length) := rfl
@[simp] theorem y_bi {i : Int} : evBi .int [.int i] = .ok (.int i) := rfl
@[simp] theorem y_bn {i : Int} : evBi .neg [.int i] = .ok (.int (-i)) := rfl
@[simp] theorem y_bt {l : List D} : evBi .tuple [.list l] = .ok (.tuple l) := rfl
@[simp] theorem y_bt2 {l : List D} : evBi .tuple [.tuple l] = .ok (.tuple l) := rfl
@[simp] theorem y_bls {l : List D} : evBi .list [.list l] = .ok (.list l) := rfl
@[simp] theorem y_bls2 {l : List D} : evBi .list [.tuple l] = .ok (.list l) := rfl
@[simp] theorem y_sq1 {l : List D} : seqD (.list l) = .ok l := rfl
@[simp] theorem y_sq2 {l : List D} : seqD (.tuple l) = .ok l := rfl
@[simp] theorem y_ixl {l : List D} {i : Int} : evIx (.list l) (.int i) = getAt l i := rfl
@[simp] theorem y_ixt {l : List D} {i : Int} : evIx (.tuple l) (.int i) = getAt l i := rfl
@[simp] theorem y_rgn {e : E} : I.val (.e e) = some e := rfl
/-- is the loop's body left? -/
def Out.stop : Out → Bool
  | .nx _ => false
  | .bk _ => false
  | _ => true
/-- a loop whose body never breaks: a fold that may be left -/
theorem for_rel {σ : Type} {body : Env → Out} {t : T} (Rl : σ → Env → Prop) (step : σ → D → Except Out σ) : ∀ (ds : List D),
    (∀ s env d, d ∈ ds → Rl s env → ∃ env1, asgT t d env = some env1 ∧ match step s d with
      | .ok s' => ∃ env2, body env1 = .nx env2 ∧ Rl s' env2
      | .error o => body env1 = o ∧ o.stop = true) →
    ∀ s env, Rl s env → match ds.foldlM step s with
      | .ok s' => ∃ env', evFor body t ds env = .nx env' ∧ Rl s' env'
      | .error o => evFor body t ds env = o
  | [], _, s, env, r => ⟨env, rfl, r⟩
  | d :: ds, h, s, env, r => by
    obtain ⟨env1, e1, e2⟩ := h s env d List.mem_cons_self r
    rw [List.foldlM_cons]
    unfold evFor
    rw [e1]
    cases e3 : step s d with
    | ok s' =>
      rw [e3] at e2
      obtain ⟨env2, e4, r2⟩ := e2
      simp only [e4]
      exact for_rel Rl step ds (fun s env d m => h s env d (List.mem_cons_of_mem _ m)) s' env2 r2
    | error o =>
      rw [e3] at e2
      obtain ⟨e4, e5⟩ := e2
      show (match body env1 with | .nx env2 => evFor body t ds env2 | .bk env2 => .nx env2 | o => o) = o
      rw [e4]
      cases o <;> first | rfl | cases e5
/-! ### data -/
theorem eqv_int (a b : Int) : PyData.eqv (.int a) (.int b) = (a == b) := by simp [PyData.eqv]
theorem eqvAll_int : ∀ a b : List Int, PyData.eqvAll (a.map .int) (b.map .int) = decide (a = b)
  | [], [] => by simp [PyData.eqvAll]
  | [], _ :: _ => by simp [PyData.eqvAll]
  | _ :: _, [] => by simp [PyData.eqvAll]
  | x :: a, y :: b => by
    simp only [List.map_cons, PyData.eqvAll, eqv_int, eqvAll_int a b, List.cons.injEq]
    by_cases h : x = y <;> by_cases h2 : a = b <;> simp [h, h2]
theorem asInts_ok : ∀ ns : List Int, asInts (ns.map .int) = some ns
  | [] => rfl
  | n :: ns => by simp [asInts, asInts_ok ns]
theorem flatAll_int : ∀ ns : List Int, flatAll (ns.map .int) = true
  | [] => rfl
  | n :: ns => by simp [flatAll, flat, flatAll_int ns]
@[simp] theorem put_int {e : E} {i : Nat} {n : Int} {env : Env} : putS e i (.int n) env = sets env i (.f (.int n)) := by unfold putS; cases e.fresh <;> rfl
@[simp] theorem put_bool {e : E} {i : Nat} {n : Bool} {env : Env} : putS e i (.bool n) env = sets env i (.f (.bool n)) := by unfold putS; cases e.fresh <;> rfl
@[simp] theorem put_none {e : E} {i : Nat} {env : Env} : putS e i .none env = sets env i (.f .none) := by unfold putS; cases e.fresh <;> rfl
@[simp] theorem put_str {e : E} {i : Nat} {n : Str} {env : Env} : putS e i (.str n) env = sets env i (.f (.str n)) := by unfold putS; cases e.fresh <;> rfl
theorem put_tup {e : E} {i : Nat} {l : List D} {env : Env} (h : flatAll l = true) : putS e i (.tuple l) env = sets env i (.f (.tuple l)) := by
  unfold putS
  cases e.fresh <;> simp [shr, flat, h]
@[simp] theorem put_tupI {e : E} {i : Nat} {l : List Int} {env : Env} : putS e i (.tuple (l.map .int)) env = sets env i (.f (.tuple (l.map .int))) := put_tup (flatAll_int l)
theorem put_new {e : E} {i : Nat} {l : List D} {env : Env} (hf : e.fresh = true) (h : flatAll l = true) : putS e i (.list l) env = sets env i (.o (.list l)) := by
  unfold putS
  rw [hf]
  simp [h]
theorem put_old {e : E} {i : Nat} {l : List D} {env : Env} (hf : e.fresh = false) : putS e i (.list l) env = sets (frzS e.vars 0 env) i (.f (.list l)) := by
  unfold putS
  rw [hf]
  simp [shr, flat]
theorem mulOk_r {i j : Int} (h1 : -(2 ^ 64) < j) (h2 : j < 2 ^ 64) : mulOk i j = true := by
  unfold mulOk
  rw [Nat.ble_eq_true_of_le (show j.natAbs ≤ 18446744073709551615 by omega), Bool.or_true, Bool.true_or]
theorem log2_small {j : Nat} (h : j < 2 ^ 64) : j.log2 < 9000 := by
  by_cases h0 : j = 0
  · subst h0; decide
  · have := (Nat.log2_lt h0).mpr h
    omega
theorem div_ok {i j : Int} (h1 : 0 < j) (h2 : j < 2 ^ 64) : evOp .div (.int i) (.int j) = .ok (.int (i / j)) := by
  rw [y_od, if_pos ⟨h1, log2_small (by omega)⟩]
theorem mul_ok {i j : Int} (h1 : -(2 ^ 64) < j) (h2 : j < 2 ^ 64) : evOp .mul (.int i) (.int j) = .ok (.int (i * j)) := by
  rw [y_om, if_pos (mulOk_r h1 h2)]
theorem mulL_ok {i j : Int} (h1 : -(2 ^ 64) < i) (h2 : i < 2 ^ 64) : evOp .mul (.int i) (.int j) = .ok (.int (i * j)) := by
  rw [y_om, if_pos]
  unfold mulOk
  rw [Nat.ble_eq_true_of_le (show i.natAbs ≤ 18446744073709551615 by omega), Bool.true_or, Bool.true_or]
theorem mod_ok {i j : Int} (h1 : 0 < j) : evOp .mod (.int i) (.int j) = .ok (.int (i % j)) := by rw [y_omd, if_pos h1]
theorem pow_10 : evOp .pow (.int 10) (.int 18) = .ok (.int 1000000000000000000) := by rfl
theorem getAt_nat {l : List D} {i : Nat} {d : D} (h : l[i]? = some d) : getAt l (i : Int) = .ok d := by
  have hi := (List.getElem?_eq_some_iff.mp h).1
  unfold getAt L2.atI L2.ixN
  simp [hi]
  exact (List.getElem?_eq_some_iff.mp h).2
theorem getAt_int {l : List D} {i : Int} {d : D} (h0 : 0 ≤ i) (h : l[i.toNat]? = some d) : getAt l i = .ok d := by
  have e : ((i.toNat : Nat) : Int) = i := by omega
  have := getAt_nat h
  rw [e] at this
  exact this
/-! ### loops by place -/
theorem for_ix2 {body : Env → Out} {t : T} {ds : List D} (P : Nat → Env → Prop) (Gd : Out → Prop)
    (h : ∀ i d env, ds[i]? = some d → P i env → ∃ env1, asgT t d env = some env1 ∧ ((∃ env2, body env1 = .nx env2 ∧ P (i + 1) env2) ∨ ((body env1).stop = true ∧ Gd (body env1)))) :
    ∀ env, P 0 env → (∃ env', evFor body t ds env = .nx env' ∧ P ds.length env') ∨ Gd (evFor body t ds env) := by
  have key : ∀ (k i : Nat) (env : Env), ds.length - i = k → i ≤ ds.length → P i env → (∃ env', evFor body t (ds.drop i) env = .nx env' ∧ P ds.length env') ∨ Gd (evFor body t (ds.drop i) env) := by
    intro k
    induction k with
    | zero =>
      intro i env e hi hp
      have e2 : i = ds.length := by omega
      subst e2
      rw [List.drop_length]
      exact .inl ⟨env, rfl, hp⟩
    | succ k ih =>
      intro i env e hi hp
      have hlt : i < ds.length := by omega
      rw [List.drop_eq_getElem_cons hlt]
      obtain ⟨env1, e1, h1⟩ := h i _ env (List.getElem?_eq_getElem hlt) hp
      unfold evFor
      rw [e1]
      rcases h1 with ⟨env2, e2, hp2⟩ | ⟨h2, h3⟩
      · simp only [e2]
        exact ih (i + 1) env2 (by omega) hlt hp2
      · right
        have e3 : (match body env1 with | .nx env2 => evFor body t (ds.drop (i + 1)) env2 | .bk env2 => .nx env2 | o => o) = body env1 := by
          cases e4 : body env1 <;> first | rfl | (rw [e4] at h2; cases h2)
        show Gd (match body env1 with | .nx env2 => evFor body t (ds.drop (i + 1)) env2 | .bk env2 => .nx env2 | o => o)
        rw [e3]
        exact h3
  intro env hp
  have := key _ 0 env rfl (Nat.zero_le _) hp
  simpa using this
theorem for_ix {body : Env → Out} {t : T} {ds : List D} (P : Nat → Env → Prop)
    (h : ∀ i d env, ds[i]? = some d → P i env → ∃ env1, asgT t d env = some env1 ∧ ∃ env2, body env1 = .nx env2 ∧ P (i + 1) env2) :
    ∀ env, P 0 env → ∃ env', evFor body t ds env = .nx env' ∧ P ds.length env' := fun env hp => by
  rcases for_ix2 P (fun _ => False) (fun i d env e q => by
    obtain ⟨env1, e1, h1⟩ := h i d env e q
    exact ⟨env1, e1, .inl h1⟩) env hp with h | h
  · exact h
  · exact h.elim
theorem compL_ok {f : D → R (Option D)} {g : D → Option D} : ∀ {ds : List D}, (∀ d ∈ ds, f d = .ok (g d)) → compL f ds = .ok (ds.filterMap g)
  | [], _ => rfl
  | d :: ds, h => by
    have e := compL_ok (ds := ds) fun x m => h x (List.mem_cons_of_mem _ m)
    unfold compL
    rw [h d List.mem_cons_self, e]
    cases q : g d with
    | none => simp [q]
    | some x => simp [q]
theorem z_lc {Φ : Phi} {env : Env} {own : List Nat} {t : T} {it : I} {c : Oe} {elt : E} : evE Φ (.lc own t it c elt) env = (evI Φ it env).bind fun ds => (compL (fun d => match asgT t d (wipeS env own) with
    | none => .st
    | some env1 => match evT Φ c env1 with
      | .ok true => match evE Φ elt env1 with
        | .ok x => .ok (some x)
        | _ => .st
      | .ok false => .ok none
      | _ => .st) ds).bind fun l => .ok (.list l) := by first | (simp only [evE]; done) | (simp only [evE]; rfl)
@[simp] theorem z_wipe {env : Env} : wipeS env [] = env := rfl
@[simp] theorem z_wipe1 {env : Env} {i : Nat} {r : List Nat} : wipeS env (i :: r) = sets (wipeS env r) i .u := rfl
theorem rgD_get {a b : Int} {i : Nat} {d : D} (h : (rgD a b)[i]? = some d) : d = .int (a + i) ∧ a + i < b := by
  unfold rgD at h
  rw [List.getElem?_map] at h
  have key : ∀ (n : Nat) (lo : Int) (i : Nat), (iota lo n)[i]? = if i < n then some (lo + i) else none := by
    intro n
    induction n with
    | zero => intro lo i; simp [iota]
    | succ n ih =>
      intro lo i
      cases i with
      | zero => simp [iota]
      | succ i =>
        simp only [iota, List.getElem?_cons_succ, ih, Nat.add_lt_add_iff_right]
        split
        · congr 1; omega
        · rfl
  rw [key] at h
  split at h
  · rename_i c
    simp at h
    exact ⟨h.symm, by omega⟩
  · simp at h
theorem iota_mem {x : Int} : ∀ {n : Nat} {lo : Int}, x ∈ iota lo n ↔ lo ≤ x ∧ x < lo + n
  | 0, lo => by simp only [iota, List.not_mem_nil, false_iff]; omega
  | n + 1, lo => by
    simp only [iota, List.mem_cons, iota_mem (n := n) (lo := lo + 1)]
    omega
theorem rgD_length {a b : Int} : (rgD a b).length = (b - a).toNat := by
  have key : ∀ (n : Nat) (lo : Int), (iota lo n).length = n := by
    intro n
    induction n with
    | zero => intro lo; rfl
    | succ n ih => intro lo; simp [iota, ih]
  simp [rgD, key]
theorem rgOk_ok {a b : Int} (h1 : -1000000 ≤ a) (h2 : a ≤ 1000000) (h3 : -1000000 ≤ b) (h4 : b ≤ 1000000) : rgOk a b = true := by
  unfold rgOk
  rw [Nat.ble_eq_true_of_le (show a.natAbs ≤ 1000000000000000000 by omega), Nat.ble_eq_true_of_le (show b.natAbs ≤ 1000000000000000000 by omega), Nat.ble_eq_true_of_le (show (b - a).toNat ≤ 10000000 by omega)]
  rfl
theorem app_run {Φ : Phi} {fu i : Nat} {e : E} {env : Env} {l : List D} {d : D} (h : geti env i = .o (.list l)) (he : evE Φ e env = .ok d) (hf : flat d = true) (hl : l.length < 1000000) : evS Φ fu (.app i e) env = .nx (sets env i (.o (.list (l ++ [d])))) := by
  simp only [evS, h, he, onR_ok, shr, hf, if_true]
  rw [if_pos (by show l.length < 10000000; omega)]
@[simp] theorem put_nil {i : Nat} {env : Env} : putS (.lst .nil) i (.list []) env = sets env i (.o (.list [])) := rfl
theorem put_lcI {own : List Nat} {t : T} {it : I} {c : Oe} {elt : E} {i : Nat} {l : List Int} {env : Env} : putS (.lc own t it c elt) i (.list (l.map .int)) env = sets env i (.o (.list (l.map .int))) := put_new rfl (flatAll_int l)
@[simp] theorem eqD_int {a b : Int} : eqD (.int a) (.int b) = .ok (a == b) := by simp [eqD, scalD, eqv_int]
theorem appPop_run {Φ : Phi} {fu i j : Nat} {e : E} {env : Env} {l m : List D} {z : Int} {d : D} (h1 : geti env i = .o (.list m)) (h2 : geti env j = .o (.list l)) (he : evE Φ e env = .ok (.int z)) (h0 : 0 ≤ z) (hz : l[z.toNat]? = some d) (hij : i ≠ j) (hm : m.length < 1000000) (hl : l.length < 1000000) :
    evS Φ fu (.appPop i j e) env = .nx (sets (sets env j (.o (.list (l.eraseIdx z.toNat)))) i (.o (.list (m ++ [d])))) := by
  have hi := (List.getElem?_eq_some_iff.mp hz).1
  have e1 : seqIndex? z l.length = some z.toNat := by
    have hz0 : ¬ z < 0 := by omega
    simp only [seqIndex?, hz0, if_false]
    rw [if_pos]
    simp
    omega
  have e2 : popAt l z = some (d, l.eraseIdx z.toNat) := by
    unfold popAt
    rw [e1]
    simp only
    rw [if_pos (Nat.ble_eq_true_of_le (by omega)), hz]
    rfl
  simp only [evS, h1, h2, he, onR_ok, e2]
  rw [if_pos ⟨hij, by show m.length < 10000000; omega⟩]
theorem iota_sorted : ∀ (n : Nat) (lo : Int), (iota lo n).Pairwise (· < ·)
  | 0, _ => .nil
  | n + 1, lo => .cons (fun x h => by have := iota_mem (x := x).mp h; omega) (iota_sorted n (lo + 1))
theorem iota_len (n : Nat) (lo : Int) : (iota lo n).length = n := by
  induction n generalizing lo with
  | zero => rfl
  | succ n ih => simp [iota, ih]
/-- a comprehension over ints -/
theorem compL_int {f : D → R (Option D)} {p : Int → Bool} {g : Int → D} : ∀ {l : List Int}, (∀ x ∈ l, f (.int x) = .ok (if p x then some (g x) else none)) → compL f (l.map .int) = .ok ((l.filter p).map g)
  | [], _ => rfl
  | x :: l, h => by
    have e := compL_int (p := p) (g := g) (l := l) fun y m => h y (List.mem_cons_of_mem _ m)
    rw [List.map_cons]
    unfold compL
    rw [h x List.mem_cons_self, e]
    cases q : p x <;> simp [q]
theorem rgD_eq {a b : Int} : rgD a b = (iota a (b - a).toNat).map .int := rfl
theorem lc_int {Φ : Phi} {env : Env} {own : List Nat} {v : Nat} {it : I} {c : Oe} {elt : E} {l : List Int} {p : Int → Bool} {g : Int → D} (hi : evI Φ it env = .ok (l.map .int))
    (h : ∀ x ∈ l, evT Φ c (sets (wipeS env own) v (.f (.int x))) = .ok (p x) ∧ (p x = true → evE Φ elt (sets (wipeS env own) v (.f (.int x))) = .ok (g x))) : evE Φ (.lc own (.n v) it c elt) env = .ok (.list ((l.filter p).map g)) := by
  rw [z_lc, hi, bind_ok, compL_int (p := p) (g := g)]
  · rfl
  · intro x hx
    obtain ⟨h1, h2⟩ := h x hx
    simp only [y_as1, h1]
    cases q : p x with
    | true => rw [h2 q]; rfl
    | false => rfl
/-- .. that takes all -/
theorem lc_all {Φ : Phi} {env : Env} {own : List Nat} {v : Nat} {it : I} {elt : E} {l : List Int} {g : Int → D} (hi : evI Φ it env = .ok (l.map .int))
    (h : ∀ x ∈ l, evE Φ elt (sets (wipeS env own) v (.f (.int x))) = .ok (g x)) : evE Φ (.lc own (.n v) it .no elt) env = .ok (.list (l.map g)) := by
  rw [lc_int (p := fun _ => true) (g := g) hi fun x hx => ⟨rfl, fun _ => h x hx⟩]
  rw [List.filter_eq_self.mpr (fun _ _ => rfl)]
theorem it_range {Φ : Phi} {env : Env} {a : E} {n : Int} (h : evE Φ a env = .ok (.int n)) (h0 : -1000000 ≤ n) (h1 : n ≤ 1000000) : evI Φ (.r1 a) env = .ok ((iota 0 n.toNat).map .int) := by
  simp only [z_i1, h, bind_ok]
  rw [if_pos (rgOk_ok (by omega) (by omega) h0 h1), rgD_eq, Int.sub_zero]
theorem rgD0_get {b : Int} {i : Nat} {d : D} (h : (rgD 0 b)[i]? = some d) : d = .int i ∧ (i : Int) < b := by
  have := rgD_get h
  rw [Int.zero_add] at this
  exact this
theorem eraseIdx_mapI : ∀ (l : List Int) (i : Nat), (l.map PyData.int).eraseIdx i = (l.eraseIdx i).map .int
  | [], i => by simp
  | x :: l, 0 => by simp
  | x :: l, i + 1 => by simp [eraseIdx_mapI l i]
theorem eraseIdx_perm {α : Type} : ∀ (l : List α) (i : Nat) (h : i < l.length), (l[i] :: l.eraseIdx i).Perm l
  | x :: l, 0, _ => by simp
  | x :: l, i + 1, h => by
    have e := eraseIdx_perm l i (by simpa using h)
    simp only [List.getElem_cons_succ, List.eraseIdx_cons_succ]
    exact (List.Perm.swap _ _ _).trans (e.cons x)
theorem it_rg {Φ : Phi} {env : Env} {a : E} {n : Int} (h : evE Φ a env = .ok (.int n)) (h0 : -1000000 ≤ n) (h1 : n ≤ 1000000) : evI Φ (.r1 a) env = .ok (rgD 0 n) := by
  simp only [z_i1, h, bind_ok]
  rw [if_pos (rgOk_ok (by omega) (by omega) h0 h1)]
theorem it_rg2 {Φ : Phi} {env : Env} {a b : E} {m n : Int} (h : evE Φ a env = .ok (.int m)) (h' : evE Φ b env = .ok (.int n)) (h2 : -1000000 ≤ m) (h3 : m ≤ 1000000) (h0 : -1000000 ≤ n) (h1 : n ≤ 1000000) : evI Φ (.r2 a b) env = .ok (rgD m n) := by
  simp only [z_i2, h, h', bind_ok]
  rw [if_pos (rgOk_ok h2 h3 h0 h1)]
end PC

set_option Elab.async false
set_option linter.all false
/-! PT1: typed readings: refinement of the evaluator by typed functions. -/
namespace PC
open PySem
/-- what the typed side tells, the evaluator tells -/
def Rf {α β : Type} (e : α → β) (r : R β) (t : R α) : Prop := match t with
  | .ok a => r = .ok (e a)
  | .ex c => r = .ex c
  | .st => True
section
variable {α β α' β' : Type} {e : α → β} {e' : α' → β'} {r : R β} {t : R α}
theorem Rf.ok {a : α} (h : r = .ok (e a)) : Rf e r (.ok a) := h
theorem Rf.pure {a : α} : Rf e (.ok (e a)) (.ok a) := rfl
theorem Rf.none : Rf e r .st := trivial
theorem Rf.bind {f : β → R β'} {g : α → R α'} (h : Rf e r t) (k : ∀ a, Rf e' (f (e a)) (g a)) : Rf e' (r.bind f) (t.bind g) := by
  cases t with
  | ok a => cases (show r = .ok (e a) from h); exact k a
  | ex c => cases (show r = .ex c from h); rfl
  | st => trivial
theorem Rf.eq {r' : R β} (h : r = r') (k : Rf e r' t) : Rf e r t := h ▸ k
theorem Rf.to {t' : R α} (h : t = t') (k : Rf e r t) : Rf e r t' := h ▸ k
theorem Rf.val {a : α} (h : Rf e r t) (q : t = .ok a) : r = .ok (e a) := by rw [q] at h; exact h
end
abbrev eI : Int → D := PyData.int
abbrev eB : Bool → D := PyData.bool
abbrev eS : Str → D := PyData.str
abbrev eN : Unit → D := fun _ => PyData.none
abbrev eD : D → D := fun d => d
abbrev eL {α : Type} (e : α → D) (l : List α) : D := .list (l.map e)
abbrev eT {α : Type} (e : α → D) (l : List α) : D := .tuple (l.map e)
abbrev eP {α β : Type} (e : α → D) (e' : β → D) (p : α × β) : D := .tuple [e p.1, e' p.2]
abbrev eP3 {α β γ : Type} (e : α → D) (e' : β → D) (e'' : γ → D) (p : α × β × γ) : D := .tuple [e p.1, e' p.2.1, e'' p.2.2]
def eO {α : Type} (e : α → D) : Option α → D
  | none => .none
  | some a => e a
def eSq {α : Type} (b : Bool) (e : α → D) (l : List α) : D := match b with
  | true => .tuple (l.map e)
  | false => .list (l.map e)
/-- trees -/
inductive Tr where
  | leaf (i : Int)
  | node (w : Bool) (ps : List Tr)
def wS : Bool → Str
  | true => "any"
  | false => "row"
abbrev eW (w : Bool) : D := .str (wS w)
mutual
def eTr : Tr → D
  | .leaf i => .int i
  | .node w ps => .tuple [.str (wS w), .tuple (eTrs ps)]
def eTrs : List Tr → List D
  | [] => []
  | t :: r => eTr t :: eTrs r
end
theorem eTrs_map : ∀ l : List Tr, eTrs l = l.map eTr
  | [] => rfl
  | t :: r => by rw [eTrs, eTrs_map r]; rfl
/-- values without lists -/
inductive U where
  | n | b (b : Bool) | i (i : Int) | s (s : Str) | t (l : List U)
mutual
def eU : U → D
  | .n => .none
  | .b b => .bool b
  | .i i => .int i
  | .s s => .str s
  | .t l => .tuple (eUs l)
def eUs : List U → List D
  | [] => []
  | t :: r => eU t :: eUs r
end
theorem eUs_map : ∀ l : List U, eUs l = l.map eU
  | [] => rfl
  | t :: r => by rw [eUs, eUs_map r]; rfl
/-! ### flat -/
theorem flI (i : Int) : flat (eI i) = true := rfl
theorem flB (i : Bool) : flat (eB i) = true := rfl
theorem flS (i : Str) : flat (eS i) = true := rfl
theorem flN (i : Unit) : flat (eN i) = true := rfl
theorem flW (i : Bool) : flat (eW i) = true := rfl
theorem flAll {α : Type} {e : α → D} (h : ∀ a, flat (e a) = true) : ∀ l : List α, flatAll (l.map e) = true
  | [] => rfl
  | a :: l => by
    show (flat (e a) && flatAll (l.map e)) = true
    rw [h a, flAll h l]; rfl
theorem flT {α : Type} {e : α → D} (h : ∀ a, flat (e a) = true) (l : List α) : flat (eT e l) = true := flAll h l
theorem flP {α β : Type} {e : α → D} {e' : β → D} (h : ∀ a, flat (e a) = true) (h' : ∀ a, flat (e' a) = true) (p : α × β) : flat (eP e e' p) = true := by
  show (flat (e p.1) && (flat (e' p.2) && true)) = true
  rw [h, h']; rfl
theorem flP3 {α β γ : Type} {e : α → D} {e' : β → D} {e'' : γ → D} (h : ∀ a, flat (e a) = true) (h' : ∀ a, flat (e' a) = true) (h'' : ∀ a, flat (e'' a) = true) (p : α × β × γ) : flat (eP3 e e' e'' p) = true := by
  show (flat (e p.1) && (flat (e' p.2.1) && (flat (e'' p.2.2) && true))) = true
  rw [h, h', h'']; rfl
theorem flO {α : Type} {e : α → D} (h : ∀ a, flat (e a) = true) (o : Option α) : flat (eO e o) = true := by
  cases o with
  | none => rfl
  | some a => exact h a
mutual
theorem flTr : ∀ t : Tr, flat (eTr t) = true
  | .leaf i => rfl
  | .node w ps => by
    show (true && (flatAll (eTrs ps) && true)) = true
    rw [flTrs ps]; rfl
theorem flTrs : ∀ l : List Tr, flatAll (eTrs l) = true
  | [] => rfl
  | t :: r => by
    show (flat (eTr t) && flatAll (eTrs r)) = true
    rw [flTr t, flTrs r]; rfl
end
mutual
theorem flU : ∀ t : U, flat (eU t) = true
  | .n => rfl
  | .b _ => rfl
  | .i _ => rfl
  | .s _ => rfl
  | .t ps => flUs ps
theorem flUs : ∀ l : List U, flatAll (eUs l) = true
  | [] => rfl
  | t :: r => by
    show (flat (eU t) && flatAll (eUs r)) = true
    rw [flU t, flUs r]; rfl
end
/-! ### typed operations -/
def atL {α : Type} (l : List α) (i : Int) : R α := match L2.atI l i with
  | some a => .ok a
  | none => .st
def cutL {α : Type} (l : List α) (lo hi : Option Int) : List α := (l.drop (HT.sIx l.length 0 lo)).take (HT.sIx l.length l.length hi - HT.sIx l.length 0 lo)
def tdiv (i j : Int) : R Int := if 0 < j ∧ j.natAbs.log2 < 9000 then .ok (i / j) else .st
def tmod (i j : Int) : R Int := if 0 < j then .ok (i % j) else .st
def tmul (i j : Int) : R Int := if mulOk i j then .ok (i * j) else .st
def tpow (i j : Int) : R Int := if 0 ≤ j ∧ j ≤ 1000000 ∧ i.natAbs < 2 ^ 64 then .ok (i ^ j.toNat) else .st
def rng (a b : Int) : R (List Int) := if rgOk a b then .ok (iota a (b - a).toNat) else .st
def rng3 (a b : Int) : R (List Int) := if rgOk a b && rgOk b a then .ok ((iota 0 (a - b).toNat).map fun m => a - m) else .st
def catL {α : Type} (a b : List α) : R (List α) := if a.length + b.length ≤ sizeLine then .ok (a ++ b) else .st
def optG {α : Type} : Option α → R α
  | some a => .ok a
  | none => .st
def Tr.parts : Tr → R (List Tr)
  | .leaf _ => .st
  | .node _ ps => .ok ps
def Tr.word : Tr → R Bool
  | .leaf _ => .st
  | .node w _ => .ok w
def Tr.thing : Tr → R Int
  | .leaf i => .ok i
  | .node _ _ => .st
def Tr.isLeaf : Tr → Bool
  | .leaf _ => true
  | .node _ _ => false
def compR {α β : Type} (p : α → R Bool) (g : α → R β) : List α → R (List β)
  | [] => .ok []
  | a :: r => match p a with
    | .ok true => match g a with
      | .ok x => match compR p g r with
        | .ok l => .ok (x :: l)
        | _ => .st
      | _ => .st
    | .ok false => compR p g r
    | _ => .st
def mapR {α β : Type} (g : α → R β) : List α → R (List β)
  | [] => .ok []
  | a :: r => match g a with
    | .ok x => match mapR g r with
      | .ok l => .ok (x :: l)
      | _ => .st
    | _ => .st
def minI : List Int → R Int
  | [] => .st
  | x :: r => .ok (minL x r)
def maxI : List Int → R Int
  | [] => .st
  | x :: r => .ok (maxL x r)
/-! ### flow -/
inductive Fl (σ ρ : Type) where
  | nx (s : σ) | bk (s : σ) | rt (v : ρ) | ex (c : Str) | st
section
variable {α β σ σ' ρ : Type}
def letR (t : R α) (k : α → Fl σ ρ) : Fl σ ρ := match t with
  | .ok a => k a
  | .ex c => .ex c
  | .st => .st
def Fl.seq (t : Fl σ ρ) (k : σ → Fl σ' ρ) : Fl σ' ρ := match t with
  | .nx s => k s
  | .bk _ => .st
  | .rt v => .rt v
  | .ex c => .ex c
  | .st => .st
def forL (l : List α) (s : σ) (f : α → σ → Fl σ ρ) : Fl σ ρ := match l with
  | [] => .nx s
  | a :: r => match f a s with
    | .nx s' => forL r s' f
    | .bk s' => .nx s'
    | o => o
def whlL (c : σ → R Bool) (f : σ → Fl σ ρ) : Nat → σ → Fl σ ρ
  | 0, _ => .st
  | n + 1, s => match c s with
    | .ok true => match f s with
      | .nx s' => whlL c f n s'
      | .bk s' => .nx s'
      | o => o
    | .ok false => .nx s
    | .ex c => .ex c
    | .st => .st
def Fl.run (t : Fl Unit ρ) (d : R ρ) : R ρ := match t with
  | .nx _ => d
  | .bk _ => .st
  | .rt v => .ok v
  | .ex c => .ex c
  | .st => .st
def appL (l : List α) (a : α) (k : List α → Fl σ ρ) : Fl σ ρ := if l.length < cap then k (l ++ [a]) else .st
def extL (l m : List α) (k : List α → Fl σ ρ) : Fl σ ρ := if l.length + m.length < cap then k (l ++ m) else .st
/-- a try whose handler is for c -/
def tryF (t : Fl σ ρ) (ks : List Str) (c : Str) (h : Str → Fl σ ρ) : Fl σ ρ := match t with
  | .ex k => if ks.contains k then (if subC k c then (match h k with | .ex _ => .st | o => o) else .ex k) else .st
  | o => o
@[simp] theorem letR_ok {a : α} {k : α → Fl σ ρ} : letR (.ok a) k = k a := rfl
@[simp] theorem letR_ex {c : Str} {k : α → Fl σ ρ} : letR (.ex c) k = .ex c := rfl
@[simp] theorem letR_st {k : α → Fl σ ρ} : letR .st k = .st := rfl
@[simp] theorem seq_nx {s : σ} {k : σ → Fl σ' ρ} : (Fl.nx s : Fl σ ρ).seq k = k s := rfl
@[simp] theorem seq_rt {v : ρ} {k : σ → Fl σ' ρ} : (Fl.rt v : Fl σ ρ).seq k = .rt v := rfl
@[simp] theorem seq_ex {c : Str} {k : σ → Fl σ' ρ} : (Fl.ex c : Fl σ ρ).seq k = .ex c := rfl
@[simp] theorem seq_st {k : σ → Fl σ' ρ} : (Fl.st : Fl σ ρ).seq k = .st := rfl
@[simp] theorem run_nx {s : Unit} {d : R ρ} : (Fl.nx s).run d = d := rfl
@[simp] theorem run_rt {v : ρ} {d : R ρ} : (Fl.rt v).run d = .ok v := rfl
@[simp] theorem run_ex {c : Str} {d : R ρ} : (Fl.ex c).run d = .ex c := rfl
@[simp] theorem run_st {d : R ρ} : (Fl.st).run d = .st := rfl
@[simp] theorem forL_nil {s : σ} {f : α → σ → Fl σ ρ} : forL [] s f = .nx s := rfl
theorem forL_cons {a : α} {l : List α} {s : σ} {f : α → σ → Fl σ ρ} : forL (a :: l) s f = (match f a s with | .nx s' => forL l s' f | .bk s' => .nx s' | o => o) := rfl
end
/-! ### simulation of statements -/
section
variable {σ σ' ρ J J' α β : Type} {er : ρ → D} {X : Env → Prop} {mk : σ → J → Env} {Φ : Phi} {fu : Nat}
def Sim (er : ρ → D) (X : Env → Prop) (mk : σ → J → Env) (o : Out) (t : Fl σ ρ) : Prop := match t with
  | .nx s => ∃ j, o = .nx (mk s j)
  | .bk s => ∃ j, o = .bk (mk s j)
  | .rt v => o = .rt (er v)
  | .ex c => ∃ env, o = .ex c env ∧ X env
  | .st => True
theorem Sim.nil {s : σ} {j : J} {env : Env} (h : env = mk s j) : Sim er X mk (evSs Φ fu [] env) (.nx s) := ⟨j, by rw [z_ss0, h]⟩
theorem Sim.onR {r : R D} {e : α → D} {t : R α} {env : Env} {k : D → Out} {k' : α → Fl σ ρ} (h : Rf e r t) (hx : X env) (hk : ∀ a, Sim er X mk (k (e a)) (k' a)) : Sim er X mk (onR r env k) (letR t k') := by
  cases t with
  | ok a => cases (show r = .ok (e a) from h); exact hk a
  | ex c => cases (show r = .ex c from h); exact ⟨env, rfl, hx⟩
  | st => trivial
theorem Sim.onR' {r : R β} {e : α → β} {t : R α} {env : Env} {k : β → Out} {k' : α → Fl σ ρ} (h : Rf e r t) (hx : X env) (hk : ∀ a, Sim er X mk (k (e a)) (k' a)) : Sim er X mk (PC.onR r env k) (letR t k') := by
  cases t with
  | ok a => cases (show r = .ok (e a) from h); exact hk a
  | ex c => cases (show r = .ex c from h); exact ⟨env, rfl, hx⟩
  | st => trivial
/-- a statement that goes on, or ends -/
def Out.go (o : Out) (f : Env → Out) : Out := match o with
  | .nx env => f env
  | o => o
theorem z_go {env : Env} {s : S} {r : List S} : evSs Φ fu (s :: r) env = (evS Φ fu s env).go (evSs Φ fu r) := z_ss1
@[simp] theorem go_nx {env : Env} {f : Env → Out} : (Out.nx env).go f = f env := rfl
theorem onR_cons {α : Type} {r : R α} {env : Env} {k : α → Out} {f : Env → Out} : (onR r env k).go f = onR r env fun a => (k a).go f := by
  cases r <;> rfl
theorem put_flat {e : E} {i : Nat} {d : D} {env : Env} (h : flat d = true) : putS e i d env = sets env i (.f d) := by
  unfold putS
  split
  · cases h
  · unfold shr; rw [if_pos h]
theorem put_own {e : E} {i : Nat} {ds : List D} {env : Env} (h : e.fresh = true) (hf : flatAll ds = true) : putS e i (.list ds) env = sets env i (.o (.list ds)) := by
  unfold putS
  rw [h]
  simp only
  rw [if_pos hf]
theorem put_share {e : E} {i : Nat} {ds : List D} {env : Env} (h : e.fresh = false) : putS e i (.list ds) env = sets (frzS e.vars 0 env) i (.f (.list ds)) := by
  unfold putS
  rw [h]
  unfold shr
  rfl
section
variable {i : Nat} {e : E} {r : List S} {env : Env} {enc : α → D} {t : R α} {k : α → Fl σ ρ}
theorem Sim.asgF (hfl : ∀ a, flat (enc a) = true) (env' : α → Env) (h : Rf enc (evE Φ e env) t) (hx : X env) (he : ∀ a, sets env i (.f (enc a)) = env' a) (hk : ∀ a, Sim er X mk (evSs Φ fu r (env' a)) (k a)) : Sim er X mk (evSs Φ fu (.asg (.n i) e :: r) env) (letR t k) := by
  rw [z_go, z_asg1, onR_cons]
  refine Sim.onR h hx fun a => ?_
  simp only [put_flat (hfl a), he a]
  exact hk a
theorem Sim.asgO {e' : β → D} {t : R (List β)} {k : List β → Fl σ ρ} (hfl : ∀ a, flat (e' a) = true) (hfr : e.fresh = true) (env' : List β → Env) (h : Rf (eL e') (evE Φ e env) t) (hx : X env) (he : ∀ a, sets env i (.o (eL e' a)) = env' a) (hk : ∀ a, Sim er X mk (evSs Φ fu r (env' a)) (k a)) : Sim er X mk (evSs Φ fu (.asg (.n i) e :: r) env) (letR t k) := by
  rw [z_go, z_asg1, onR_cons]
  refine Sim.onR h hx fun a => ?_
  simp only [put_own hfr (flAll hfl a), he a]
  exact hk a
theorem Sim.asgL {e' : β → D} {t : R (List β)} {k : List β → Fl σ ρ} (hfr : e.fresh = false) (env' : List β → Env) (h : Rf (eL e') (evE Φ e env) t) (hx : X env) (he : ∀ a, sets (frzS e.vars 0 env) i (.f (eL e' a)) = env' a) (hk : ∀ a, Sim er X mk (evSs Φ fu r (env' a)) (k a)) : Sim er X mk (evSs Φ fu (.asg (.n i) e :: r) env) (letR t k) := by
  rw [z_go, z_asg1, onR_cons]
  refine Sim.onR h hx fun a => ?_
  simp only [put_share hfr, he a]
  exact hk a
theorem Sim.asgT {is : List Nat} (hfl : ∀ a, flat (enc a) = true) (env' : α → Env) (h : Rf enc (evE Φ e env) t) (hx : X env) (he : ∀ a, PC.asgT (.t is) (enc a) env = some (env' a)) (hk : ∀ a, Sim er X mk (evSs Φ fu r (env' a)) (k a)) : Sim er X mk (evSs Φ fu (.asg (.t is) e :: r) env) (letR t k) := by
  rw [z_go, z_asgT, onR_cons]
  refine Sim.onR h hx fun a => ?_
  simp only [shr, if_pos (hfl a), he a]
  exact hk a
theorem Sim.exp (h : Rf enc (evE Φ e env) t) (hx : X env) (hk : ∀ a, Sim er X mk (evSs Φ fu r env) (k a)) : Sim er X mk (evSs Φ fu (.exp e :: r) env) (letR t k) := by
  rw [z_go, z_exp, onR_cons]
  exact Sim.onR h hx hk
theorem Sim.ret {t : R ρ} {σ J : Type} {mk : σ → J → Env} (h : Rf er (evE Φ e env) t) (hx : X env) : Sim er X mk (evSs Φ fu (.ret e :: r) env) (letR t fun v => .rt v) := by
  rw [z_go, z_ret, onR_cons]
  exact Sim.onR h hx fun a => rfl
theorem Sim.retN {v : ρ} {σ J : Type} {mk : σ → J → Env} (h : er v = .none) : Sim er X mk (evSs Φ fu (.retN :: r) env) (.rt v) := by
  rw [z_go, z_retN, ← h]
  rfl
theorem Sim.raise {c : Str} {σ J : Type} {mk : σ → J → Env} (hx : X env) : Sim er X mk (evSs Φ fu (.raise c :: r) env) (.ex c) := by
  rw [z_go, z_raise]
  exact ⟨env, rfl, hx⟩
theorem Sim.brk {s : σ} {j : J} (h : env = mk s j) : Sim er X mk (evSs Φ fu (.brk :: r) env) (.bk s) := by
  rw [z_go, z_brk]
  exact ⟨j, by rw [h]; rfl⟩
theorem Sim.pas {t : Fl σ ρ} (h : Sim er X mk (evSs Φ fu r env) t) : Sim er X mk (evSs Φ fu (.pas :: r) env) t := by
  rw [z_go, z_pas]
  exact h
/-- append -/
theorem Sim.app {e' : β → D} {l : List β} {t : R β} {k : List β → Fl σ ρ} (hfl : ∀ a, flat (e' a) = true) (env' : List β → Env) (h : Rf e' (evE Φ e env) t) (hx : X env) (hg : geti env i = .o (eL e' l)) (he : ∀ a, sets env i (.o (eL e' a)) = env' a) (hk : ∀ a, Sim er X mk (evSs Φ fu r (env' a)) (k a)) :
    Sim er X mk (evSs Φ fu (.app i e :: r) env) (letR t fun a => appL l a k) := by
  rw [z_go]
  simp only [evS, hg, onR_cons]
  refine Sim.onR h hx fun a => ?_
  simp only [shr, if_pos (hfl a), hg]
  unfold appL
  by_cases c : l.length < cap
  · rw [if_pos c, if_pos (by rw [List.length_map]; exact c)]
    have e1 : sets env i (.o (.list (l.map e' ++ [e' a]))) = env' (l ++ [a]) := by rw [← he]; simp [eL]
    simp only [e1]
    exact hk _
  · rw [if_neg c]; trivial
/-- extend -/
theorem Sim.ext {e' : β → D} {l : List β} {t : R (List β)} {k : List β → Fl σ ρ} {b : Bool} (hfl : ∀ a, flat (e' a) = true) (env' : List β → Env) (h : Rf (eSq b e') (evE Φ e env) t) (hx : X env) (hg : geti env i = .o (eL e' l)) (he : ∀ a, sets env i (.o (eL e' a)) = env' a) (hk : ∀ a, Sim er X mk (evSs Φ fu r (env' a)) (k a)) :
    Sim er X mk (evSs Φ fu (.ext i e :: r) env) (letR t fun m => extL l m k) := by
  rw [z_go]
  simp only [evS, hg, onR_cons]
  refine Sim.onR h hx fun m => ?_
  have e0 : lstD (eSq b e' m) = some (m.map e') := by cases b <;> rfl
  simp only [e0, if_pos (flAll hfl m), hg]
  unfold extL
  by_cases c : l.length + m.length < cap
  · rw [if_pos c, if_pos (by rw [List.length_map, List.length_map]; exact c)]
    have e1 : sets env i (.o (.list (l.map e' ++ m.map e'))) = env' (l ++ m) := by rw [← he]; simp [eL]
    simp only [e1]
    exact hk _
  · rw [if_neg c]; trivial
theorem Sim.rvs {e' : β → D} {l : List β} {t : Fl σ ρ} (env' : Env) (hg : geti env i = .o (eL e' l)) (he : sets env i (.o (eL e' l.reverse)) = env') (hk : Sim er X mk (evSs Φ fu r env') t) : Sim er X mk (evSs Φ fu (.rvs i :: r) env) t := by
  rw [z_go]
  simp only [evS, hg]
  have e1 : (l.map e').reverse = l.reverse.map e' := by simp
  rw [e1]
  simp only [he]
  exact hk
theorem Sim.augI {o : Op} {x : Int} {t : R Int} {k : Int → Fl σ ρ} {f : Int → Int → R Int} (hf : ∀ a b, Rf eI (augD o a (.int b)) (f a b)) (env' : Int → Env) (h : Rf eI (evE Φ e env) t) (hx : X env) (hg : geti env i = .f (.int x)) (he : ∀ a, sets env i (.f (.int a)) = env' a) (hk : ∀ a, Sim er X mk (evSs Φ fu r (env' a)) (k a)) :
    Sim er X mk (evSs Φ fu (.aug i o e :: r) env) (letR t fun b => letR (f x b) k) := by
  rw [z_go]
  simp only [evS, hg, onR_cons]
  refine Sim.onR h hx fun b => ?_
  have h2 := hf x b
  cases q : f x b with
  | ok z =>
    rw [q] at h2
    have h2 : augD o x (.int b) = .ok (.int z) := h2
    simp only [h2, he]
    exact hk z
  | ex c =>
    rw [q] at h2
    exfalso
    have h2 : augD o x (.int b) = .ex c := h2
    cases o <;> simp [augD] at h2 <;> split at h2 <;> cases h2
  | st => trivial
end
theorem augAdd (a b : Int) : Rf eI (augD .add a (.int b)) (.ok (a + b)) := rfl
theorem augSub (a b : Int) : Rf eI (augD .sub a (.int b)) (.ok (a - b)) := rfl
theorem augMul (a b : Int) : Rf eI (augD .mul a (.int b)) (tmul a b) := by
  show Rf eI (if mulOk a b then R.ok (PyData.int (a * b)) else .st) (tmul a b)
  unfold tmul
  split <;> first | rfl | trivial
theorem augDiv (a b : Int) : Rf eI (augD .div a (.int b)) (tdiv a b) := by
  show Rf eI (if 0 < b ∧ b.natAbs.log2 < 9000 then R.ok (PyData.int (a / b)) else .st) (tdiv a b)
  unfold tdiv
  split <;> first | rfl | trivial
/-! ### branches -/
mutual
def endS : S → Bool
  | .ret _ | .retN | .raise _ | .brk => true
  | .ite _ a b => endSs a && endSs b
  | .try_ b _ _ _ s => endSs b && endSs s
  | _ => false
def endSs : List S → Bool
  | [] => false
  | s :: r => endS s || endSs r
end
theorem onR_nx {α : Type} {r : R α} {env env' : Env} {k : α → Out} (h : onR r env k = .nx env') : ∃ a, k a = .nx env' := by
  cases r with
  | ok a => exact ⟨a, h⟩
  | ex c => cases h
  | st => cases h
mutual
theorem endS_ok : ∀ (s : S) (env env' : Env), endS s = true → evS Φ fu s env ≠ .nx env'
  | .ret e, env, env', _, h => by rw [z_ret] at h; obtain ⟨a, h⟩ := onR_nx h; cases h
  | .retN, env, env', _, h => by rw [z_retN] at h; cases h
  | .raise c, env, env', _, h => by rw [z_raise] at h; cases h
  | .brk, env, env', _, h => by rw [z_brk] at h; cases h
  | .ite c a b, env, env', q, h => by
    rw [z_ite] at h
    obtain ⟨k, h⟩ := onR_nx h
    simp only [endS, Bool.and_eq_true] at q
    cases k with
    | true => exact endSs_ok a env env' q.1 h
    | false => exact endSs_ok b env env' q.2 h
  | .try_ b ks c n s, env, env', q, h => by
    simp only [endS, Bool.and_eq_true] at q
    simp only [evS] at h
    cases e1 : evSs Φ fu b env with
    | nx env1 => exact endSs_ok b env env1 q.1 e1
    | bk _ => rw [e1] at h; cases h
    | rt _ => rw [e1] at h; cases h
    | st => rw [e1] at h; cases h
    | ex k env1 =>
      rw [e1] at h
      simp only at h
      split at h
      · split at h
        · cases n with
          | none =>
            simp only at h
            cases e2 : evSs Φ fu s env1 with
            | nx env2 => exact endSs_ok s env1 env2 q.2 e2
            | bk _ => rw [e2] at h; cases h
            | rt _ => rw [e2] at h; cases h
            | st => rw [e2] at h; cases h
            | ex _ _ => rw [e2] at h; cases h
          | some i =>
            simp only at h
            cases e2 : evSs Φ fu s (sets env1 i (.x k)) with
            | nx env2 => exact endSs_ok s _ env2 q.2 e2
            | bk _ => rw [e2] at h; cases h
            | rt _ => rw [e2] at h; cases h
            | st => rw [e2] at h; cases h
            | ex _ _ => rw [e2] at h; cases h
        · cases h
      · cases h
  | .asg _ _, _, _, q, _ => by simp [endS] at q
  | .par _ _ _ _, _, _, q, _ => by simp [endS] at q
  | .aug _ _ _, _, _, q, _ => by simp [endS] at q
  | .app _ _, _, _, q, _ => by simp [endS] at q
  | .appPop _ _ _, _, _, q, _ => by simp [endS] at q
  | .popTo _ _ _, _, _, q, _ => by simp [endS] at q
  | .ext _ _, _, _, q, _ => by simp [endS] at q
  | .rvs _, _, _, q, _ => by simp [endS] at q
  | .srt _, _, _, q, _ => by simp [endS] at q
  | .ins _ _ _, _, _, q, _ => by simp [endS] at q
  | .rem _ _, _, _, q, _ => by simp [endS] at q
  | .setIx _ _ _, _, _, q, _ => by simp [endS] at q
  | .exp _, _, _, q, _ => by simp [endS] at q
  | .for_ _ _ _, _, _, q, _ => by simp [endS] at q
  | .whl _ _, _, _, q, _ => by simp [endS] at q
  | .pas, _, _, q, _ => by simp [endS] at q
theorem endSs_ok : ∀ (l : List S) (env env' : Env), endSs l = true → evSs Φ fu l env ≠ .nx env'
  | [], _, _, q, _ => by simp [endSs] at q
  | s :: r, env, env', q, h => by
    simp only [endSs, Bool.or_eq_true] at q
    rw [z_ss1] at h
    cases e : evS Φ fu s env with
    | nx env1 =>
      rw [e] at h
      rcases q with q | q
      · exact endS_ok s env env1 q e
      · exact endSs_ok r env1 env' q h
    | bk _ => rw [e] at h; cases h
    | rt _ => rw [e] at h; cases h
    | st => rw [e] at h; cases h
    | ex _ _ => rw [e] at h; cases h
end
theorem evSs_append : ∀ (a b : List S) (env : Env), evSs Φ fu (a ++ b) env = (evSs Φ fu a env).go (evSs Φ fu b)
  | [], b, env => by rw [z_ss0]; rfl
  | s :: a, b, env => by
    show evSs Φ fu (s :: (a ++ b)) env = _
    rw [z_go, z_go]
    cases e : evS Φ fu s env with
    | nx env1 => exact evSs_append a b env1
    | _ => rfl
def cnd {σ ρ : Type} (c : R Bool) (a b : Fl σ ρ) : Fl σ ρ := letR c fun c => if c then a else b
@[simp] theorem cnd_ok {σ ρ : Type} {c : Bool} {a b : Fl σ ρ} : cnd (.ok c) a b = if c then a else b := rfl
@[simp] theorem cnd_st {σ ρ : Type} {a b : Fl σ ρ} : cnd .st a b = .st := rfl
@[simp] theorem cnd_ex {σ ρ : Type} {a b : Fl σ ρ} {c : Str} : cnd (.ex c) a b = .ex c := rfl
theorem Rf.toB {r : R D} {t : R Bool} (h : Rf eB r t) : Rf (fun b : Bool => b) (toB r) t := by
  cases t with
  | ok a => cases (show r = .ok (.bool a) from h); rfl
  | ex c => cases (show r = .ex c from h); rfl
  | st => trivial
section
variable {c : E} {a b r : List S} {env : Env} {tc : R Bool} {A B : Fl σ ρ}
/-- the first branch ends -/
theorem Sim.ite1 (hen : endSs a = true) (h : Rf eB (evE Φ c env) tc) (hx : X env) (hA : Sim er X mk (evSs Φ fu a env) A) (hB : Sim er X mk (evSs Φ fu (b ++ r) env) B) : Sim er X mk (evSs Φ fu (.ite c a b :: r) env) (cnd tc A B) := by
  rw [z_go, z_ite, onR_cons]
  refine Sim.onR' h.toB hx fun k => ?_
  cases k with
  | true =>
    simp only [if_true]
    cases e : evSs Φ fu a env with
    | nx env1 => exact absurd e (endSs_ok a env env1 hen)
    | _ => rw [e] at hA; exact hA
  | false =>
    rw [evSs_append] at hB
    exact hB
/-- the second branch ends -/
theorem Sim.ite2 (hen : endSs b = true) (h : Rf eB (evE Φ c env) tc) (hx : X env) (hA : Sim er X mk (evSs Φ fu (a ++ r) env) A) (hB : Sim er X mk (evSs Φ fu b env) B) : Sim er X mk (evSs Φ fu (.ite c a b :: r) env) (cnd tc A B) := by
  rw [z_go, z_ite, onR_cons]
  refine Sim.onR' h.toB hx fun k => ?_
  cases k with
  | true =>
    rw [evSs_append] at hA
    exact hA
  | false =>
    simp only [Bool.false_eq_true, if_false]
    cases e : evSs Φ fu b env with
    | nx env1 => exact absurd e (endSs_ok b env env1 hen)
    | _ => rw [e] at hB; exact hB
theorem Sim.after {mk' : σ' → J' → Env} {o : Out} {t : Fl σ' ρ} {K : σ' → Fl σ ρ} (h : Sim er X mk' o t) (hr : ∀ s j, Sim er X mk (evSs Φ fu r (mk' s j)) (K s)) : Sim er X mk (o.go (evSs Φ fu r)) (t.seq K) := by
  cases t with
  | nx s => obtain ⟨j, rfl⟩ := h; exact hr s j
  | bk s => trivial
  | rt v => cases (show o = _ from h); rfl
  | ex c => obtain ⟨env, rfl, q⟩ := h; exact ⟨env, rfl, q⟩
  | st => trivial
/-- both branches go on -/
theorem Sim.iteJ {mk' : σ' → J' → Env} {A B : Fl σ' ρ} {K : σ' → Fl σ ρ} (h : Rf eB (evE Φ c env) tc) (hx : X env) (hA : Sim er X mk' (evSs Φ fu a env) A) (hB : Sim er X mk' (evSs Φ fu b env) B) (hr : ∀ s j, Sim er X mk (evSs Φ fu r (mk' s j)) (K s)) :
    Sim er X mk (evSs Φ fu (.ite c a b :: r) env) ((cnd tc A B).seq K) := by
  rw [z_go, z_ite]
  refine Sim.after (mk' := mk') (Sim.onR' h.toB hx fun k => ?_) hr
  cases k with
  | true => exact hA
  | false => exact hB
/-- .. at the end of a block -/
theorem Sim.iteE (h : Rf eB (evE Φ c env) tc) (hx : X env) (hA : Sim er X mk (evSs Φ fu a env) A) (hB : Sim er X mk (evSs Φ fu b env) B) :
    Sim er X mk (evSs Φ fu [.ite c a b] env) (cnd tc A B) := by
  rw [z_go, z_ite]
  have : ∀ o : Out, o.go (evSs Φ fu []) = o := fun o => by cases o <;> first | rfl | exact z_ss0
  rw [this]
  refine Sim.onR' h.toB hx fun k => ?_
  cases k with
  | true => exact hA
  | false => exact hB
end
/-! ### loops -/
def frzE (it : I) (env : Env) : Env := match it.val with
  | some a => frzS a.vars 0 env
  | none => env
theorem Sim.loop {e : α → D} {tt : T} {b : List S} {mkL : σ → J → Env} {body : α → σ → Fl σ ρ} (env1 : α → σ → J → Env) (ha : ∀ a s j, PC.asgT tt (e a) (mkL s j) = some (env1 a s j)) (hb : ∀ a s j, Sim er X mkL (evSs Φ fu b (env1 a s j)) (body a s)) :
    ∀ (l : List α) s j, Sim er X mkL (evFor (evSs Φ fu b) tt (l.map e) (mkL s j)) (match forL l s body with | .bk s => .nx s | o => o)
  | [], s, j => ⟨j, rfl⟩
  | a :: l, s, j => by
    rw [forL_cons, List.map_cons]
    unfold evFor
    rw [ha]
    have h := hb a s j
    cases q : body a s with
    | nx s' =>
      rw [q] at h
      obtain ⟨j', h⟩ := h
      simp only [h]
      exact Sim.loop env1 ha hb l s' j'
    | bk s' =>
      rw [q] at h
      obtain ⟨j', h⟩ := h
      simp only [h]
      exact ⟨j', rfl⟩
    | rt v => rw [q] at h; simp only [show _ = _ from h]; rfl
    | ex c => rw [q] at h; obtain ⟨env, h, hx⟩ := h; simp only [h]; exact ⟨env, rfl, hx⟩
    | st => trivial
theorem forL_nobk {l : List α} {s : σ} {f : α → σ → Fl σ ρ} : (match forL l s f with | .bk s => .nx s | o => o) = forL l s f := by
  induction l generalizing s with
  | nil => rfl
  | cons a l ih =>
    rw [forL_cons]
    cases f a s with
    | nx s' => exact ih
    | _ => rfl
theorem Sim.for {e : α → D} {tt : T} {it : I} {b r : List S} {env : Env} {t : R (List α)} {body : α → σ' → Fl σ' ρ} {K : σ' → Fl σ ρ} (mkL : σ' → J' → Env) (env1 : α → σ' → J' → Env) (s0 : σ') (j0 : J')
    (h : Rf (List.map e) (evI Φ it env) t) (hx : X env) (h0 : frzE it env = mkL s0 j0) (ha : ∀ a s j, PC.asgT tt (e a) (mkL s j) = some (env1 a s j)) (hb : ∀ a s j, Sim er X mkL (evSs Φ fu b (env1 a s j)) (body a s)) (hr : ∀ s j, Sim er X mk (evSs Φ fu r (mkL s j)) (K s)) :
    Sim er X mk (evSs Φ fu (.for_ tt it b :: r) env) ((letR t fun l => forL l s0 body).seq K) := by
  rw [z_go, z_for]
  refine Sim.after (mk' := mkL) (Sim.onR' h hx fun l => ?_) hr
  have := Sim.loop (tt := tt) (e := e) env1 ha hb l s0 j0
  rw [forL_nobk] at this
  have e1 : frzI it (l.map e) env = mkL s0 j0 := by rw [← h0]; rfl
  rw [e1]
  exact this
theorem Sim.whl {c : E} {b r : List S} {env : Env} {tc : σ' → R Bool} {body : σ' → Fl σ' ρ} {K : σ' → Fl σ ρ} (mkL : σ' → J' → Env) (s0 : σ') (j0 : J') (h0 : env = mkL s0 j0) (hx : ∀ s j, X (mkL s j))
    (hc : ∀ s j, Rf eB (evE Φ c (mkL s j)) (tc s)) (hb : ∀ s j, Sim er X mkL (evSs Φ fu b (mkL s j)) (body s)) (hr : ∀ s j, Sim er X mk (evSs Φ fu r (mkL s j)) (K s)) :
    Sim er X mk (evSs Φ fu (.whl c b :: r) env) ((whlL tc body fu s0).seq K) := by
  rw [z_go, z_whl]
  refine Sim.after (mk' := mkL) ?_ hr
  subst h0
  have key : ∀ (n : Nat) s j, Sim er X mkL (evWhl (fun env => toB (evE Φ c env)) (evSs Φ fu b) n (mkL s j)) (whlL tc body n s) := by
    intro n
    induction n with
    | zero => intro s j; trivial
    | succ n ih =>
      intro s j
      unfold evWhl whlL
      have h := (hc s j).toB
      cases q : tc s with
      | ok k =>
        rw [q] at h
        simp only [show _ = _ from h]
        cases k with
        | false => exact ⟨j, rfl⟩
        | true =>
          have h := hb s j
          cases q : body s with
          | nx s' => rw [q] at h; obtain ⟨j', h⟩ := h; simp only [h]; exact ih s' j'
          | bk s' => rw [q] at h; obtain ⟨j', h⟩ := h; simp only [h]; exact ⟨j', rfl⟩
          | rt v => rw [q] at h; simp only [show _ = _ from h]; rfl
          | ex c => rw [q] at h; obtain ⟨env, h, hx⟩ := h; simp only [h]; exact ⟨env, rfl, hx⟩
          | st => trivial
      | ex c => rw [q] at h; simp only [show _ = _ from h]; exact ⟨_, rfl, hx s j⟩
      | st => trivial
  exact key fu s0 j0
/-! ### a def -/
theorem fn_sim {T : Str → Option Fn} {k : Nat} {f : Str} {fn : Fn} {ds : List D} {t : Fl Unit ρ} {d : R ρ} (hT : T f = some fn) (hl : ds.length = fn.np) (hd : Rf er (.ok .none) d)
    (h : Sim er (fun _ => True) (fun (_ : Unit) (j : Env) => j) (evSs (callP T fu k) fu fn.body (ds.map .f ++ List.replicate (fn.nl - fn.np) .u)) t) : Rf er (callP T fu (k + 1) f ds) (t.run d) := by
  rw [callP_succ hT]
  unfold runFn
  rw [if_pos hl]
  cases t with
  | nx s => obtain ⟨j, h⟩ := h; rw [h]; exact hd
  | bk s => trivial
  | rt v => rw [show _ = _ from h]; rfl
  | ex c => obtain ⟨env, h, _⟩ := h; rw [h]; rfl
  | st => trivial
end
end PC

set_option Elab.async false
set_option linter.all false
/-! PT2: typed readings of expressions. -/
namespace PC
open PySem
section
variable {Φ : Phi} {env : Env} {α β γ δ ε α' : Type}
theorem x_v {e : α → D} {a : α} {i : Nat} (h : rdS (geti env i) = .ok (e a)) : Rf e (evE Φ (.v i) env) (.ok a) := by rw [z_e_v]; exact h
theorem x_int {i : Int} : Rf eI (evE Φ (.int i) env) (.ok i) := by rw [z_e_int]; rfl
theorem x_str {i : Str} : Rf eS (evE Φ (.str i) env) (.ok i) := by rw [z_e_str]; rfl
theorem x_bl {i : Bool} : Rf eB (evE Φ (.bl i) env) (.ok i) := by rw [z_e_bl]; rfl
theorem x_non : Rf eN (evE Φ .non env) (.ok ()) := by rw [z_e_non]; rfl
theorem x_nonO {e : α → D} : Rf (eO e) (evE Φ .non env) (.ok none) := by rw [z_e_non]; rfl
/-- another type for the same value -/
theorem x_co {e : α → D} {e' : β → D} {r : R D} {t : R α} {f : α → β} (h : Rf e r t) (c : ∀ a, e a = e' (f a)) : Rf e' r (t.bind fun a => .ok (f a)) := by
  cases t with
  | ok a => cases (show r = .ok (e a) from h); show R.ok (e a) = .ok (e' (f a)); rw [c]
  | ex c => exact h
  | st => trivial
theorem x_cop {e : α → D} {e' : β → D} {r : R D} {t : R α} {f : α → R β} (h : Rf e r t) (c : ∀ a, Rf e' (.ok (e a)) (f a)) : Rf e' r (t.bind f) := by
  cases t with
  | ok a => cases (show r = .ok (e a) from h); exact c a
  | ex c => exact h
  | st => trivial
theorem co_some {e : α → D} (a : α) : e a = eO e (some a) := rfl
theorem co_leaf (a : Int) : eI a = eTr (.leaf a) := by rw [eTr]
theorem co_L {e : α → D} {e' : β → D} {f : α → β} (c : ∀ a, e a = e' (f a)) (l : List α) : eL e l = eL e' (l.map f) := by
  simp only [eL, List.map_map]
  congr 1
  exact List.map_congr_left fun a _ => c a
theorem co_T {e : α → D} {e' : β → D} {f : α → β} (c : ∀ a, e a = e' (f a)) (l : List α) : eT e l = eT e' (l.map f) := by
  simp only [eT, List.map_map]
  congr 1
  exact List.map_congr_left fun a _ => c a
theorem co_nilL {e : α → D} {e' : β → D} (l : List Unit) : True := trivial
theorem co_SL {e : α → D} (l : List α) : eL e l = eSq false e l := rfl
theorem co_ST {e : α → D} (l : List α) : eT e l = eSq true e l := rfl
theorem co_P {e : α → D} {e' : β → D} {e1 : γ → D} {e2 : δ → D} {f : α → γ} {g : β → δ} (c : ∀ a, e a = e1 (f a)) (c' : ∀ a, e' a = e2 (g a)) (p : α × β) : eP e e' p = eP e1 e2 (f p.1, g p.2) := by
  simp only [eP, c, c']
theorem cp_opt {e : α → D} (a : Option α) : Rf e (.ok (eO e a)) (optG a) := by cases a <;> trivial
theorem cp_thing (a : Tr) : Rf eI (.ok (eTr a)) (Tr.thing a) := by
  cases a with
  | leaf i => show R.ok (eTr (.leaf i)) = .ok (eI i); rw [eTr]
  | node w ps => trivial
/-! #### logic -/
theorem x_not {a : E} {t : R Bool} (h : Rf eB (evE Φ a env) t) : Rf eB (evE Φ (.not a) env) (t.bind fun b => .ok (!b)) := by
  rw [z_e_not]
  cases t with
  | ok b => rw [show evE Φ a env = _ from h]; rfl
  | ex c => rw [show evE Φ a env = _ from h]; rfl
  | st => trivial
theorem x_and {a b : E} {t u : R Bool} (h : Rf eB (evE Φ a env) t) (h' : Rf eB (evE Φ b env) u) : Rf eB (evE Φ (.and a b) env) (t.bind fun c => if c then u else .ok false) := by
  rw [z_e_and]
  refine Rf.bind h.toB fun c => ?_
  cases c with
  | true =>
    simp only [if_true]
    cases u with
    | ok b' => rw [show evE Φ b env = _ from h']; rfl
    | ex c => rw [show evE Φ b env = _ from h']; rfl
    | st => trivial
  | false => rfl
theorem x_or {a b : E} {t u : R Bool} (h : Rf eB (evE Φ a env) t) (h' : Rf eB (evE Φ b env) u) : Rf eB (evE Φ (.or a b) env) (t.bind fun c => if c then .ok true else u) := by
  rw [z_e_or]
  refine Rf.bind h.toB fun c => ?_
  cases c with
  | false =>
    simp only [Bool.false_eq_true, if_false]
    cases u with
    | ok b' => rw [show evE Φ b env = _ from h']; rfl
    | ex c => rw [show evE Φ b env = _ from h']; rfl
    | st => trivial
  | true => rfl
/-- .. where the second part is plain -/
theorem x_andp {a b : E} {t : R Bool} {u : Bool} (h : Rf eB (evE Φ a env) t) (h' : Rf eB (evE Φ b env) (.ok u)) : Rf eB (evE Φ (.and a b) env) (t.bind fun c => .ok (c && u)) := by
  refine Rf.to ?_ (x_and h h')
  cases t with
  | ok c => cases c <;> rfl
  | ex c => rfl
  | st => rfl
theorem x_orp {a b : E} {t : R Bool} {u : Bool} (h : Rf eB (evE Φ a env) t) (h' : Rf eB (evE Φ b env) (.ok u)) : Rf eB (evE Φ (.or a b) env) (t.bind fun c => .ok (c || u)) := by
  refine Rf.to ?_ (x_or h h')
  cases t with
  | ok c => cases c <;> rfl
  | ex c => rfl
  | st => rfl
/-! #### operators -/
theorem x_op {o : Op} {a b : E} {e1 : α → D} {e2 : β → D} {e : γ → D} {t : R α} {u : R β} {g : α → β → R γ} (h : Rf e1 (evE Φ a env) t) (h' : Rf e2 (evE Φ b env) u) (hg : ∀ x y, Rf e (evOp o (e1 x) (e2 y)) (g x y)) : Rf e (evE Φ (.op o a b) env) (t.bind fun x => u.bind fun y => g x y) := by
  rw [z_e_op]
  exact Rf.bind h fun x => Rf.bind h' fun y => hg x y
theorem o_add (x y : Int) : Rf eI (evOp .add (eI x) (eI y)) (.ok (x + y)) := rfl
theorem o_sub (x y : Int) : Rf eI (evOp .sub (eI x) (eI y)) (.ok (x - y)) := rfl
theorem o_mul (x y : Int) : Rf eI (evOp .mul (eI x) (eI y)) (tmul x y) := by
  rw [y_om]; unfold tmul
  split <;> first | rfl | trivial
theorem o_div (x y : Int) : Rf eI (evOp .div (eI x) (eI y)) (tdiv x y) := by
  rw [y_od]; unfold tdiv
  split <;> first | rfl | trivial
theorem o_mod (x y : Int) : Rf eI (evOp .mod (eI x) (eI y)) (tmod x y) := by
  rw [y_omd]; unfold tmod
  split <;> first | rfl | trivial
theorem o_pow (x y : Int) : Rf eI (evOp .pow (eI x) (eI y)) (tpow x y) := by
  show Rf eI (if 0 ≤ y ∧ y ≤ 1000000 ∧ x.natAbs < 2 ^ 64 then R.ok (PyData.int (x ^ y.toNat)) else .st) _
  unfold tpow
  split <;> first | rfl | trivial
theorem o_catT {e : α → D} (x y : List α) : Rf (eT e) (evOp .add (eT e x) (eT e y)) (catL x y) := by
  show Rf (eT e) (if (x.map e).length + (y.map e).length ≤ sizeLine then R.ok (PyData.tuple (x.map e ++ y.map e)) else .st) _
  unfold catL
  rw [List.length_map, List.length_map]
  by_cases c : x.length + y.length ≤ sizeLine
  · rw [if_pos c, if_pos c]; show _ = _; rw [← List.map_append]
  · rw [if_neg c, if_neg c]; trivial
theorem o_catL {e : α → D} (x y : List α) : Rf (eL e) (evOp .add (eL e x) (eL e y)) (catL x y) := by
  show Rf (eL e) (if (x.map e).length + (y.map e).length ≤ sizeLine then R.ok (PyData.list (x.map e ++ y.map e)) else .st) _
  unfold catL
  rw [List.length_map, List.length_map]
  by_cases c : x.length + y.length ≤ sizeLine
  · rw [if_pos c, if_pos c]; show _ = _; rw [← List.map_append]
  · rw [if_neg c, if_neg c]; trivial
def repL (a : List α) (k : Int) : R (List α) := if 0 ≤ k ∧ k < 2 ^ 60 ∧ a.length * k.toNat ≤ sizeLine then .ok (List.replicate k.toNat a).flatten else .st
theorem rep_map {e : α → D} (a : List α) (n : Nat) : (List.replicate n (a.map e)).flatten = ((List.replicate n a).flatten).map e := by
  induction n with
  | zero => rfl
  | succ n ih => simp only [List.replicate_succ, List.flatten_cons, List.map_append, ih]
theorem o_repL {e : α → D} (x : List α) (k : Int) : Rf (eL e) (evOp .mul (eL e x) (eI k)) (repL x k) := by
  show Rf (eL e) (if 0 ≤ k ∧ k < 2 ^ 60 ∧ (x.map e).length * k.toNat ≤ sizeLine then R.ok (PyData.list (List.replicate k.toNat (x.map e)).flatten) else .st) _
  unfold repL
  rw [List.length_map]
  by_cases c : 0 ≤ k ∧ k < 2 ^ 60 ∧ x.length * k.toNat ≤ sizeLine
  · rw [if_pos c, if_pos c]; show _ = _; rw [rep_map]
  · rw [if_neg c, if_neg c]; trivial
def repT (a : List α) (k : Int) : R (List α) := if 2 ≤ k ∧ k ≤ 1000 ∧ 1 ≤ a.length ∧ a.length ≤ 1000 then .ok (List.replicate k.toNat a).flatten else .st
theorem o_repT {e : α → D} (x : List α) (k : Int) : Rf (eT e) (evOp .mul (eT e x) (eI k)) (repT x k) := by
  show Rf (eT e) (if 2 ≤ k ∧ k ≤ 1000 ∧ 1 ≤ (x.map e).length ∧ (x.map e).length ≤ 1000 then R.ok (PyData.tuple (List.replicate k.toNat (x.map e)).flatten) else .st) _
  unfold repT
  rw [List.length_map]
  by_cases c : 2 ≤ k ∧ k ≤ 1000 ∧ 1 ≤ x.length ∧ x.length ≤ 1000
  · rw [if_pos c, if_pos c]; show _ = _; rw [rep_map]
  · rw [if_neg c, if_neg c]; trivial
/-! #### comparisons -/
theorem x_cmp {a : E} {cs : Cs} {e : α → D} {t : R α} {k : α → R Bool} (h : Rf e (evE Φ a env) t) (hk : ∀ x, Rf eB (evC Φ cs (e x) env) (k x)) : Rf eB (evE Φ (.cmp a cs) env) (t.bind k) := by
  rw [z_e_cmp]
  exact Rf.bind h hk
abbrev eJ : Bool → Bool := fun b => b
theorem Rf.flt {r : R Bool} {t : R Bool} (h : Rf eJ r t) : Rf eB (flt r) t := by
  cases t with
  | ok a => cases (show r = .ok a from h); rfl
  | ex c => cases (show r = .ex c from h); rfl
  | st => trivial
theorem Rf.notR {r : R Bool} {t : R Bool} (h : Rf eJ r t) : Rf eJ (notR r) (t.bind fun b => .ok (!b)) := by
  cases t with
  | ok a => cases (show r = .ok a from h); rfl
  | ex c => cases (show r = .ex c from h); rfl
  | st => trivial
theorem c_one {c : Cm} {b : E} {d : D} {e : β → D} {t : R β} {g : β → R Bool} (h : Rf e (evE Φ b env) t) (hg : ∀ y, Rf eJ (evCm c d (e y)) (g y)) : Rf eB (evC Φ (.one c b) d env) (t.bind g) := by
  rw [z_c1]
  exact Rf.bind h fun y => (hg y).flt
theorem c_more {c : Cm} {b : E} {cs : Cs} {d : D} {e : β → D} {t : R β} {g k : β → R Bool} (h : Rf e (evE Φ b env) t) (hg : ∀ y, Rf eJ (evCm c d (e y)) (g y)) (hk : ∀ y, Rf eB (evC Φ cs (e y) env) (k y)) :
    Rf eB (evC Φ (.more c b cs) d env) (t.bind fun y => (g y).bind fun q => if q then k y else .ok false) := by
  rw [z_c2]
  refine Rf.bind h fun y => Rf.bind (e := eJ) (hg y) fun q => ?_
  cases q with
  | true => exact hk y
  | false => rfl
theorem c_morep {c : Cm} {b : E} {cs : Cs} {d : D} {e : β → D} {t : R β} {g k : β → Bool} (h : Rf e (evE Φ b env) t) (hg : ∀ y, Rf eJ (evCm c d (e y)) (.ok (g y))) (hk : ∀ y, Rf eB (evC Φ cs (e y) env) (.ok (k y))) :
    Rf eB (evC Φ (.more c b cs) d env) (t.bind fun y => .ok (g y && k y)) := by
  refine Rf.to ?_ (c_more h hg hk)
  congr 1
  funext y
  show (if g y then R.ok (k y) else .ok false) = _
  cases g y <;> rfl
theorem m_lt (x y : Int) : Rf eJ (evCm .lt (eI x) (eI y)) (.ok (decide (x < y))) := rfl
theorem m_gt (x y : Int) : Rf eJ (evCm .gt (eI x) (eI y)) (.ok (decide (y < x))) := rfl
theorem m_le (x y : Int) : Rf eJ (evCm .le (eI x) (eI y)) (.ok (decide (x ≤ y))) := by
  show R.ok (!(decide (y < x))) = .ok (decide (x ≤ y))
  congr 1
  rw [← decide_not]
  exact decide_eq_decide.mpr Int.not_lt
theorem m_ge (x y : Int) : Rf eJ (evCm .ge (eI x) (eI y)) (.ok (decide (y ≤ x))) := by
  show R.ok (!(decide (x < y))) = .ok (decide (y ≤ x))
  congr 1
  rw [← decide_not]
  exact decide_eq_decide.mpr Int.not_lt
def memB {α : Type} [DecidableEq α] (x : α) (l : List α) : Bool := decide (x ∈ l)
@[simp] theorem memB_eq {α : Type} [DecidableEq α] {x : α} {l : List α} : memB x l = decide (x ∈ l) := rfl
/-- values of one type that can be compared -/
structure Eqe [DecidableEq α] (e : α → D) (n : Nat) : Prop where
  lay : ∀ a, (e a).canLay0 = true
  dep : ∀ a, (e a).depth ≤ n
  eqv : ∀ a b, PyData.eqv (e a) (e b) = decide (a = b)
/-- never None -/
def Nn (e : α → D) : Prop := ∀ a, PyData.eqv .none (e a) = false ∧ PyData.eqv (e a) .none = false
theorem nn_I : Nn eI := fun _ => ⟨by simp [PyData.eqv], by simp [PyData.eqv]⟩
theorem nn_B : Nn eB := fun _ => ⟨by simp [PyData.eqv], by simp [PyData.eqv]⟩
theorem nn_W : Nn eW := fun _ => ⟨by simp [PyData.eqv], by simp [PyData.eqv]⟩
theorem nn_T {e : α → D} : Nn (eT e) := fun _ => ⟨by simp [PyData.eqv], by simp [PyData.eqv]⟩
theorem nn_L {e : α → D} : Nn (eL e) := fun _ => ⟨by simp [PyData.eqv], by simp [PyData.eqv]⟩
theorem nn_P {e : α → D} {e' : β → D} : Nn (eP e e') := fun _ => ⟨by simp [PyData.eqv], by simp [PyData.eqv]⟩
theorem q_I : Eqe eI 0 := ⟨fun _ => rfl, fun _ => Nat.le_refl _, fun a b => by rw [eqv_int]; rfl⟩
theorem q_B : Eqe eB 0 := ⟨fun _ => rfl, fun _ => Nat.le_refl _, fun a b => by cases a <;> cases b <;> simp [PyData.eqv]⟩
theorem q_W : Eqe eW 0 := ⟨fun a => by cases a <;> decide +kernel, fun a => by cases a <;> exact Nat.le_refl _, fun a b => by cases a <;> cases b <;> rfl⟩
section
variable [DecidableEq α] [DecidableEq β] {e : α → D} {e' : β → D} {n m : Nat}
theorem q_lays (q : Eqe e n) : ∀ l : List α, PyData.canLayAll0 (l.map e) = true
  | [] => by simp [PyData.canLayAll0]
  | a :: l => by simp [PyData.canLayAll0, q.lay a, q_lays q l]
theorem q_deps (q : Eqe e n) : ∀ l : List α, PyData.depthAll (l.map e) ≤ n + 1
  | [] => by simp [PyData.depthAll]
  | a :: l => by
    have := q_deps q l
    have := q.dep a
    simp [PyData.depthAll]
    omega
theorem q_eqvs (q : Eqe e n) : ∀ a b : List α, PyData.eqvAll (a.map e) (b.map e) = decide (a = b)
  | [], [] => by simp [PyData.eqvAll]
  | [], _ :: _ => by simp [PyData.eqvAll]
  | _ :: _, [] => by simp [PyData.eqvAll]
  | x :: a, y :: b => by
    simp only [List.map_cons, PyData.eqvAll, q.eqv, q_eqvs q a b, List.cons.injEq]
    by_cases h : x = y <;> by_cases h2 : a = b <;> simp [h, h2]
theorem q_T (q : Eqe e n) : Eqe (eT e) (n + 2) := ⟨fun l => by simp [PyData.canLay0, q_lays q l], fun l => by have := q_deps q l; simp [PyData.depth]; omega, fun a b => by simp only [eT, PyData.eqv, q_eqvs q]⟩
theorem q_L (q : Eqe e n) : Eqe (eL e) (n + 2) := ⟨fun l => by simp [PyData.canLay0, q_lays q l], fun l => by have := q_deps q l; simp [PyData.depth]; omega, fun a b => by simp only [eL, PyData.eqv, q_eqvs q]⟩
theorem q_P (q : Eqe e n) (q' : Eqe e' m) : Eqe (eP e e') (max n m + 2) := ⟨fun p => by simp [PyData.canLay0, PyData.canLayAll0, q.lay, q'.lay], fun p => by have := q.dep p.1; have := q'.dep p.2; simp [PyData.depth, PyData.depthAll]; omega,
  fun a b => by
    simp only [eP, PyData.eqv, PyData.eqvAll, q.eqv, q'.eqv, Bool.and_true]
    obtain ⟨a1, a2⟩ := a
    obtain ⟨b1, b2⟩ := b
    simp only [Prod.mk.injEq]
    by_cases h : a1 = b1 <;> by_cases h2 : a2 = b2 <;> simp [h, h2]⟩
theorem q_O (q : Eqe e n) (nn : Nn e) : Eqe (eO e) n := ⟨fun o => by cases o with | none => rfl | some a => exact q.lay a, fun o => by cases o with | none => exact Nat.zero_le _ | some a => exact q.dep a,
  fun a b => by
    cases a with
    | none => cases b with
      | none => simp [eO, PyData.eqv]
      | some b => simp only [eO]; rw [(nn b).1]; rfl
    | some a => cases b with
      | none => simp only [eO]; rw [(nn a).2]; rfl
      | some b => simp only [eO]; rw [q.eqv]; simp⟩
theorem q_sh (q : Eqe e n) (hn : n ≤ 64) (a : α) : SeqAt.shaped (e a) = true := by
  have := q.dep a
  simp only [SeqAt.shaped, q.lay a, Bool.true_and, decide_eq_true_eq]
  omega
theorem m_eq (q : Eqe e n) (hn : n ≤ 64) (x y : α) : Rf eJ (evCm .eq (e x) (e y)) (.ok (decide (x = y))) := by
  show eqD (e x) (e y) = .ok (decide (x = y))
  unfold eqD
  rw [q_sh q hn, q_sh q hn, Bool.and_self, Bool.or_true, if_pos rfl, q.eqv]
theorem m_ne (q : Eqe e n) (hn : n ≤ 64) (x y : α) : Rf eJ (evCm .ne (e x) (e y)) (.ok (!decide (x = y))) := by
  show notR (evCm .eq (e x) (e y)) = _
  rw [show evCm .eq (e x) (e y) = _ from m_eq q hn x y]; rfl
theorem q_any (q : Eqe e n) (x : α) : ∀ l : List α, ((l.map e).any fun z => PyData.eqv z (e x)) = decide (x ∈ l)
  | [] => by simp
  | y :: l => by
    simp only [List.map_cons, List.any_cons, q.eqv, q_any q x l, List.mem_cons]
    by_cases h : x = y
    · simp [h]
    · have h2 : ¬ y = x := fun e => h e.symm
      simp [h, h2]
theorem m_inL (q : Eqe e n) (hn : n ≤ 62) (x : α) (l : List α) : Rf eJ (evCm .in_ (e x) (eL e l)) (.ok (memB x l)) := by
  show inD (e x) (eL e l) = _
  have h := q_sh (q_L q) (by omega) l
  unfold inD
  simp only [q_sh q (show n ≤ 64 by omega) x, h, Bool.and_self, if_true, q_any q, memB]
theorem m_inT (q : Eqe e n) (hn : n ≤ 62) (x : α) (l : List α) : Rf eJ (evCm .in_ (e x) (eT e l)) (.ok (memB x l)) := by
  show inD (e x) (eT e l) = _
  have h := q_sh (q_T q) (by omega) l
  unfold inD
  simp only [q_sh q (show n ≤ 64 by omega) x, h, Bool.and_self, if_true, q_any q, memB]
theorem m_inS {b : Bool} (q : Eqe e n) (hn : n ≤ 62) (x : α) (l : List α) : Rf eJ (evCm .in_ (e x) (eSq b e l)) (.ok (memB x l)) := by
  cases b
  · exact m_inL q hn x l
  · exact m_inT q hn x l
theorem m_ninL (q : Eqe e n) (hn : n ≤ 62) (x : α) (l : List α) : Rf eJ (evCm .nin (e x) (eL e l)) (.ok (!memB x l)) := by
  show notR (evCm .in_ (e x) (eL e l)) = _
  rw [show evCm .in_ (e x) (eL e l) = _ from m_inL q hn x l]; rfl
theorem m_ninT (q : Eqe e n) (hn : n ≤ 62) (x : α) (l : List α) : Rf eJ (evCm .nin (e x) (eT e l)) (.ok (!memB x l)) := by
  show notR (evCm .in_ (e x) (eT e l)) = _
  rw [show evCm .in_ (e x) (eT e l) = _ from m_inT q hn x l]; rfl
theorem m_ninS {b : Bool} (q : Eqe e n) (hn : n ≤ 62) (x : α) (l : List α) : Rf eJ (evCm .nin (e x) (eSq b e l)) (.ok (!memB x l)) := by
  cases b
  · exact m_ninL q hn x l
  · exact m_ninT q hn x l
end
theorem m_eqS (x y : Str) : Rf eJ (evCm .eq (eS x) (eS y)) (.ok (decide (x = y))) := by
  show R.ok (PyData.eqv (.str x) (.str y)) = .ok (decide (x = y))
  simp only [PyData.eqv]
  by_cases h : x = y
  · simp [h]
  · simp [h]
theorem m_neS (x y : Str) : Rf eJ (evCm .ne (eS x) (eS y)) (.ok (!decide (x = y))) := by
  show notR (evCm .eq (eS x) (eS y)) = _
  rw [show evCm .eq (eS x) (eS y) = _ from m_eqS x y]; rfl
/-- a word of a tree against a written word -/
theorem m_eqWa (x : Bool) : Rf eJ (evCm .eq (eW x) (eS "any")) (.ok x) := by cases x <;> rfl
theorem m_eqWr (x : Bool) : Rf eJ (evCm .eq (eW x) (eS "row")) (.ok (!x)) := by cases x <;> rfl
theorem m_ltT (x y : List Int) : Rf eJ (evCm .lt (eT eI x) (eT eI y)) (.ok (HT.lexLt x y)) := by
  show ltD (eT eI x) (eT eI y) = _
  unfold ltD
  simp only [eT, asInts_ok]
theorem m_gtT (x y : List Int) : Rf eJ (evCm .gt (eT eI x) (eT eI y)) (.ok (HT.lexLt y x)) := m_ltT y x
theorem m_geT (x y : List Int) : Rf eJ (evCm .ge (eT eI x) (eT eI y)) (.ok (!HT.lexLt x y)) := by
  show notR (evCm .lt (eT eI x) (eT eI y)) = _
  rw [show evCm .lt (eT eI x) (eT eI y) = _ from m_ltT x y]; rfl
theorem m_ltP (x y : Int × Int) : Rf eJ (evCm .lt (eP eI eI x) (eP eI eI y)) (.ok (HT.lexLt [x.1, x.2] [y.1, y.2])) := m_ltT [x.1, x.2] [y.1, y.2]
/-! #### displays, indexes, slices -/
theorem es_nil {e : α → D} : Rf (List.map e) (evs Φ .nil env) (.ok []) := by rw [z_es0]; rfl
theorem es_cons {a : E} {r : Es} {e : α → D} {t : R α} {u : R (List α)} (h : Rf e (evE Φ a env) t) (h' : Rf (List.map e) (evs Φ r env) u) : Rf (List.map e) (evs Φ (.cons a r) env) (t.bind fun x => u.bind fun l => .ok (x :: l)) := by
  rw [z_es1]
  exact Rf.bind h fun x => Rf.bind h' fun l => rfl
theorem x_lst {es : Es} {e : α → D} {t : R (List α)} (h : Rf (List.map e) (evs Φ es env) t) : Rf (eL e) (evE Φ (.lst es) env) (t.bind fun l => .ok l) := by
  rw [z_e_lst]
  exact Rf.bind h fun l => rfl
theorem x_tup {es : Es} {e : α → D} {t : R (List α)} (h : Rf (List.map e) (evs Φ es env) t) : Rf (eT e) (evE Φ (.tup es) env) (t.bind fun l => .ok l) := by
  rw [z_e_tup]
  exact Rf.bind h fun l => rfl
theorem x_tup2 {a b : E} {e : α → D} {e' : β → D} {t : R α} {u : R β} (h : Rf e (evE Φ a env) t) (h' : Rf e' (evE Φ b env) u) : Rf (eP e e') (evE Φ (.tup (.cons a (.cons b .nil))) env) (t.bind fun x => u.bind fun y => .ok (x, y)) := by
  rw [z_e_tup, z_es1]
  cases t with
  | ok x =>
    rw [show evE Φ a env = _ from h, z_es1]
    cases u with
    | ok y => rw [show evE Φ b env = _ from h', z_es0]; rfl
    | ex c => rw [show evE Φ b env = _ from h']; rfl
    | st => trivial
  | ex c => rw [show evE Φ a env = _ from h]; rfl
  | st => trivial
theorem x_tup3 {a b c : E} {e : α → D} {e' : β → D} {e'' : γ → D} {t : R α} {u : R β} {v : R γ} (h : Rf e (evE Φ a env) t) (h' : Rf e' (evE Φ b env) u) (h'' : Rf e'' (evE Φ c env) v) : Rf (eP3 e e' e'') (evE Φ (.tup (.cons a (.cons b (.cons c .nil)))) env) (t.bind fun x => u.bind fun y => v.bind fun z => .ok (x, y, z)) := by
  rw [z_e_tup, z_es1]
  cases t with
  | ok x =>
    rw [show evE Φ a env = _ from h, z_es1]
    cases u with
    | ok y =>
      rw [show evE Φ b env = _ from h', z_es1]
      cases v with
      | ok z => rw [show evE Φ c env = _ from h'', z_es0]; rfl
      | ex c' => rw [show evE Φ c env = _ from h'']; rfl
      | st => trivial
    | ex c => rw [show evE Φ b env = _ from h']; rfl
    | st => trivial
  | ex c => rw [show evE Φ a env = _ from h]; rfl
  | st => trivial
/-- a tree of two written parts -/
theorem x_node {a b : E} {t : R Bool} {u : R (List Tr)} (h : Rf eW (evE Φ a env) t) (h' : Rf (eT eTr) (evE Φ b env) u) : Rf eTr (evE Φ (.tup (.cons a (.cons b .nil))) env) (t.bind fun x => u.bind fun y => .ok (.node x y)) := by
  refine Rf.to ?_ (x_co (e' := eTr) (f := fun p : Bool × List Tr => Tr.node p.1 p.2) (x_tup2 h h') fun p => by rw [eTr, eTrs_map])
  cases t with
  | ok x => cases u <;> rfl
  | ex c => rfl
  | st => rfl
theorem x_wa : Rf eW (evE Φ (.str "any") env) (.ok true) := by rw [z_e_str]; rfl
theorem x_wr : Rf eW (evE Φ (.str "row") env) (.ok false) := by rw [z_e_str]; rfl
theorem x_ix {a b : E} {e1 : α → D} {e2 : β → D} {e : γ → D} {t : R α} {u : R β} {g : α → β → R γ} (h : Rf e1 (evE Φ a env) t) (h' : Rf e2 (evE Φ b env) u) (hg : ∀ x y, Rf e (evIx (e1 x) (e2 y)) (g x y)) : Rf e (evE Φ (.ix a b) env) (t.bind fun x => u.bind fun y => g x y) := by
  rw [z_e_ix]
  exact Rf.bind h fun x => Rf.bind h' fun y => hg x y
theorem getAt_map {e : α → D} (l : List α) (i : Int) : Rf e (getAt (l.map e) i) (atL l i) := by
  unfold getAt atL L2.atI
  rw [List.length_map]
  cases L2.ixN l.length i with
  | none => trivial
  | some j =>
    simp only [Option.bind_some, List.getElem?_map]
    cases l[j]? with
    | none => trivial
    | some a => rfl
theorem i_L {e : α → D} (l : List α) (i : Int) : Rf e (evIx (eL e l) (eI i)) (atL l i) := getAt_map l i
theorem i_T {e : α → D} (l : List α) (i : Int) : Rf e (evIx (eT e l) (eI i)) (atL l i) := getAt_map l i
theorem i_S {e : α → D} {b : Bool} (l : List α) (i : Int) : Rf e (evIx (eSq b e l) (eI i)) (atL l i) := by cases b <;> exact getAt_map l i
theorem x_fst {a : E} {e : α → D} {e' : β → D} {t : R (α × β)} (h : Rf (eP e e') (evE Φ a env) t) : Rf e (evE Φ (.ix a (.int 0)) env) (t.bind fun p => .ok p.1) := by
  rw [z_e_ix]
  exact Rf.bind h fun p => by rw [z_e_int]; rfl
theorem x_snd {a : E} {e : α → D} {e' : β → D} {t : R (α × β)} (h : Rf (eP e e') (evE Φ a env) t) : Rf e' (evE Φ (.ix a (.int 1)) env) (t.bind fun p => .ok p.2) := by
  rw [z_e_ix]
  exact Rf.bind h fun p => by rw [z_e_int]; rfl
theorem x_3a {a : E} {e : α → D} {e' : β → D} {e'' : γ → D} {t : R (α × β × γ)} (h : Rf (eP3 e e' e'') (evE Φ a env) t) : Rf e (evE Φ (.ix a (.int 0)) env) (t.bind fun p => .ok p.1) := by
  rw [z_e_ix]
  exact Rf.bind h fun p => by rw [z_e_int]; rfl
theorem x_3b {a : E} {e : α → D} {e' : β → D} {e'' : γ → D} {t : R (α × β × γ)} (h : Rf (eP3 e e' e'') (evE Φ a env) t) : Rf e' (evE Φ (.ix a (.int 1)) env) (t.bind fun p => .ok p.2.1) := by
  rw [z_e_ix]
  exact Rf.bind h fun p => by rw [z_e_int]; rfl
theorem x_3c {a : E} {e : α → D} {e' : β → D} {e'' : γ → D} {t : R (α × β × γ)} (h : Rf (eP3 e e' e'') (evE Φ a env) t) : Rf e'' (evE Φ (.ix a (.int 2)) env) (t.bind fun p => .ok p.2.2) := by
  rw [z_e_ix]
  exact Rf.bind h fun p => by rw [z_e_int]; rfl
theorem x_word {a : E} {t : R Tr} (h : Rf eTr (evE Φ a env) t) : Rf eW (evE Φ (.ix a (.int 0)) env) (t.bind Tr.word) := by
  rw [z_e_ix]
  refine Rf.bind h fun p => ?_
  rw [z_e_int]
  cases p with
  | leaf i => trivial
  | node w ps => rw [eTr]; rfl
theorem x_parts {a : E} {t : R Tr} (h : Rf eTr (evE Φ a env) t) : Rf (eT eTr) (evE Φ (.ix a (.int 1)) env) (t.bind Tr.parts) := by
  rw [z_e_ix]
  refine Rf.bind h fun p => ?_
  rw [z_e_int]
  cases p with
  | leaf i => trivial
  | node w ps => rw [eTr, eTrs_map]; rfl
theorem o_no : Rf (fun o : Option Int => o) (evO Φ .no env) (.ok none) := by rw [z_o0]; rfl
theorem o_yes {a : E} {t : R Int} (h : Rf eI (evE Φ a env) t) : Rf (fun o : Option Int => o) (evO Φ (.yes a) env) (t.bind fun i => .ok (some i)) := by
  rw [z_o1]
  exact Rf.bind h fun i => rfl
theorem x_sl {a : E} {lo hi : Oe} {e1 : α → D} {e : β → D} {t : R α} {u v : R (Option Int)} {g : α → Option Int → Option Int → R β} (h : Rf e1 (evE Φ a env) t) (h' : Rf (fun o : Option Int => o) (evO Φ lo env) u) (h'' : Rf (fun o : Option Int => o) (evO Φ hi env) v) (hg : ∀ x i j, Rf e (evSl (e1 x) i j) (g x i j)) :
    Rf e (evE Φ (.sl a lo hi) env) (t.bind fun x => u.bind fun i => v.bind fun j => g x i j) := by
  rw [z_e_sl]
  exact Rf.bind h fun x => Rf.bind h' fun i => Rf.bind h'' fun j => hg x i j
theorem cutD_map {e : α → D} (l : List α) (lo hi : Option Int) : cutD (l.map e) lo hi = (cutL l lo hi).map e := by
  simp only [cutD, cutL, List.length_map, List.map_take, List.map_drop]
theorem s_L {e : α → D} (l : List α) (lo hi : Option Int) : Rf (eL e) (evSl (eL e l) lo hi) (.ok (cutL l lo hi)) := by
  show R.ok (PyData.list (cutD (l.map e) lo hi)) = _
  rw [cutD_map]
theorem s_T {e : α → D} (l : List α) (lo hi : Option Int) : Rf (eT e) (evSl (eT e l) lo hi) (.ok (cutL l lo hi)) := by
  show R.ok (PyData.tuple (cutD (l.map e) lo hi)) = _
  rw [cutD_map]
theorem s_S {e : α → D} {b : Bool} (l : List α) (lo hi : Option Int) : Rf (eSq b e) (evSl (eSq b e l) lo hi) (.ok (cutL l lo hi)) := by
  cases b
  · exact s_L l lo hi
  · exact s_T l lo hi
theorem x_revL {a : E} {e : α → D} {t : R (List α)} (h : Rf (eL e) (evE Φ a env) t) : Rf (eL e) (evE Φ (.rev a) env) (t.bind fun l => .ok l.reverse) := by
  simp only [evE]
  refine Rf.bind h fun l => ?_
  show R.ok (PyData.list (l.map e).reverse) = _
  rw [← List.map_reverse]
theorem x_revT {a : E} {e : α → D} {t : R (List α)} (h : Rf (eT e) (evE Φ a env) t) : Rf (eT e) (evE Φ (.rev a) env) (t.bind fun l => .ok l.reverse) := by
  simp only [evE]
  refine Rf.bind h fun l => ?_
  show R.ok (PyData.tuple (l.map e).reverse) = _
  rw [← List.map_reverse]
theorem x_revS {a : E} {e : α → D} {b : Bool} {t : R (List α)} (h : Rf (eSq b e) (evE Φ a env) t) : Rf (eSq b e) (evE Φ (.rev a) env) (t.bind fun l => .ok l.reverse) := by
  cases b
  · exact x_revL h
  · exact x_revT h
/-! #### calls -/
theorem x_bi1 {b : Bi} {a : E} {e1 : α → D} {e : β → D} {t : R α} {g : α → R β} (h : Rf e1 (evE Φ a env) t) (hg : ∀ x, Rf e (evBi b [e1 x]) (g x)) : Rf e (evE Φ (.bi b (.cons a .nil)) env) (t.bind g) := by
  rw [z_e_bi, z_es1]
  cases t with
  | ok x => rw [show evE Φ a env = _ from h, z_es0]; exact hg x
  | ex c => rw [show evE Φ a env = _ from h]; rfl
  | st => trivial
theorem x_bi2 {b : Bi} {a a' : E} {e1 : α → D} {e2 : γ → D} {e : β → D} {t : R α} {u : R γ} {g : α → γ → R β} (h : Rf e1 (evE Φ a env) t) (h' : Rf e2 (evE Φ a' env) u) (hg : ∀ x y, Rf e (evBi b [e1 x, e2 y]) (g x y)) : Rf e (evE Φ (.bi b (.cons a (.cons a' .nil))) env) (t.bind fun x => u.bind fun y => g x y) := by
  rw [z_e_bi, z_es1]
  cases t with
  | ok x =>
    rw [show evE Φ a env = _ from h, z_es1]
    cases u with
    | ok y => rw [show evE Φ a' env = _ from h', z_es0]; exact hg x y
    | ex c => rw [show evE Φ a' env = _ from h']; rfl
    | st => trivial
  | ex c => rw [show evE Φ a env = _ from h]; rfl
  | st => trivial
theorem b_lenL {e : α → D} (l : List α) : Rf eI (evBi .len [eL e l]) (.ok (l.length : Int)) := by
  show R.ok (PyData.int ((l.map e).length : Int)) = _
  rw [List.length_map]
theorem b_lenT {e : α → D} (l : List α) : Rf eI (evBi .len [eT e l]) (.ok (l.length : Int)) := by
  show R.ok (PyData.int ((l.map e).length : Int)) = _
  rw [List.length_map]
theorem b_lenS {e : α → D} {b : Bool} (l : List α) : Rf eI (evBi .len [eSq b e l]) (.ok (l.length : Int)) := by
  cases b
  · exact b_lenL l
  · exact b_lenT l
theorem b_int (i : Int) : Rf eI (evBi .int [eI i]) (.ok i) := rfl
theorem b_intB (b : Bool) : Rf eI (evBi .int [eB b]) (.ok (if b then 1 else 0)) := rfl
theorem b_abs (i : Int) : Rf eI (evBi .abs [eI i]) (.ok (if i < 0 then -i else i)) := rfl
theorem b_neg (i : Int) : Rf eI (evBi .neg [eI i]) (.ok (-i)) := rfl
theorem b_min2 (i j : Int) : Rf eI (evBi .min2 [eI i, eI j]) (.ok (if j < i then j else i)) := rfl
theorem b_max2 (i j : Int) : Rf eI (evBi .max2 [eI i, eI j]) (.ok (if j > i then j else i)) := rfl
theorem b_min1 (l : List Int) : Rf eI (evBi .min1 [eL eI l]) (minI l) := by
  unfold evBi
  simp only [eL, asInts_ok]
  cases l with
  | nil => trivial
  | cons x r => rfl
theorem b_max1 (l : List Int) : Rf eI (evBi .max1 [eL eI l]) (maxI l) := by
  unfold evBi
  simp only [eL, asInts_ok]
  cases l with
  | nil => trivial
  | cons x r => rfl
theorem b_sortL (l : List Int) : Rf (eL eI) (evBi .sorted [eL eI l]) (.ok (isort l)) := by
  unfold evBi
  simp only [eL, asInts_ok]
  rfl
theorem b_sortT (l : List Int) : Rf (eL eI) (evBi .sorted [eT eI l]) (.ok (isort l)) := by
  unfold evBi
  simp only [eT, asInts_ok]
  rfl
theorem b_tupL {e : α → D} (l : List α) : Rf (eT e) (evBi .tuple [eL e l]) (.ok l) := rfl
theorem b_tupT {e : α → D} (l : List α) : Rf (eT e) (evBi .tuple [eT e l]) (.ok l) := rfl
theorem b_tupS {e : α → D} {b : Bool} (l : List α) : Rf (eT e) (evBi .tuple [eSq b e l]) (.ok l) := by cases b <;> rfl
theorem b_lstL {e : α → D} (l : List α) : Rf (eL e) (evBi .list [eL e l]) (.ok l) := rfl
theorem b_lstT {e : α → D} (l : List α) : Rf (eL e) (evBi .list [eT e l]) (.ok l) := rfl
theorem b_lstS {e : α → D} {b : Bool} (l : List α) : Rf (eL e) (evBi .list [eSq b e l]) (.ok l) := by cases b <;> rfl
theorem b_sum (l : List Int) : Rf eI (evBi .sum [eL eI l]) (.ok l.sum) := by
  unfold evBi
  simp only [eL, asInts_ok]
  rfl
theorem asBools_ok : ∀ l : List Bool, asBools (l.map .bool) = some l
  | [] => rfl
  | b :: l => by simp [asBools, asBools_ok l]
theorem b_all (l : List Bool) : Rf eB (evBi .all [eL eB l]) (.ok (l.all id)) := by
  unfold evBi
  simp only [eL, asBools_ok]
  rfl
theorem b_any (l : List Bool) : Rf eB (evBi .any [eL eB l]) (.ok (l.any id)) := by
  unfold evBi
  simp only [eL, asBools_ok]
  rfl
def lenSetR (l : List Int) : R Int := if l.length ≤ 1000 then .ok ((nodupI l).length : Int) else .st
theorem b_lset (l : List Int) : Rf eI (evBi .lenSet [eT eI l]) (lenSetR l) := by
  unfold evBi lenSetR
  simp only [eT, asInts_ok]
  split <;> first | rfl | trivial
theorem b_lR1 (n : Int) : Rf (eL eI) (evBi .listR1 [eI n]) (rng 0 n) := by
  show Rf (eL eI) (if rgOk 0 n then R.ok (PyData.list (rgD 0 n)) else .st) _
  unfold rng
  split <;> first | rfl | trivial
theorem b_lR2 (a b : Int) : Rf (eL eI) (evBi .listR2 [eI a, eI b]) (rng a b) := by
  show Rf (eL eI) (if rgOk a b then R.ok (PyData.list (rgD a b)) else .st) _
  unfold rng
  split <;> first | rfl | trivial
theorem b_tR1 (n : Int) : Rf (eT eI) (evBi .tupR1 [eI n]) (rng 0 n) := by
  show Rf (eT eI) (if rgOk 0 n then R.ok (PyData.tuple (rgD 0 n)) else .st) _
  unfold rng
  split <;> first | rfl | trivial
theorem b_tR2 (a b : Int) : Rf (eT eI) (evBi .tupR2 [eI a, eI b]) (rng a b) := by
  show Rf (eT eI) (if rgOk a b then R.ok (PyData.tuple (rgD a b)) else .st) _
  unfold rng
  split <;> first | rfl | trivial
theorem b_isIntT (t : Tr) : Rf eB (evBi .isInt [eTr t]) (.ok t.isLeaf) := by
  cases t with
  | leaf i => rw [eTr]; rfl
  | node w ps => rw [eTr]; rfl
theorem b_isIntI (t : Int) : Rf eB (evBi .isInt [eI t]) (.ok true) := rfl
theorem b_isBoolB (t : Bool) : Rf eB (evBi .isBool [eB t]) (.ok true) := rfl
theorem b_isBoolI (t : Int) : Rf eB (evBi .isBool [eI t]) (.ok false) := rfl
theorem b_isNone {e : α → D} (he : ∀ a, e a ≠ .none) (o : Option α) : Rf eB (evBi .isNone [eO e o]) (.ok o.isNone) := by
  cases o with
  | none => rfl
  | some a =>
    show R.ok (PyData.bool (match e a with | .none => true | _ => false)) = .ok (.bool false)
    cases q : e a <;> first | rfl | exact absurd q (he a)
theorem b_notNone {e : α → D} (he : ∀ a, e a ≠ .none) (o : Option α) : Rf eB (evBi .notNone [eO e o]) (.ok o.isSome) := by
  cases o with
  | none => rfl
  | some a =>
    show R.ok (PyData.bool (match e a with | .none => false | _ => true)) = .ok (.bool true)
    cases q : e a <;> first | rfl | exact absurd q (he a)
theorem neI (i : Int) : eI i ≠ .none := nofun
theorem neB (i : Bool) : eB i ≠ .none := nofun
theorem neS (i : Str) : eS i ≠ .none := nofun
theorem neL {e : α → D} (l : List α) : eL e l ≠ .none := nofun
theorem neT {e : α → D} (l : List α) : eT e l ≠ .none := nofun
theorem neP {e : α → D} {e' : β → D} (l : α × β) : eP e e' l ≠ .none := nofun
theorem neP3 {e : α → D} {e' : β → D} {e'' : γ → D} (l : α × β × γ) : eP3 e e' e'' l ≠ .none := nofun
theorem neTr (t : Tr) : eTr t ≠ .none := by cases t <;> rw [eTr] <;> exact nofun
theorem x_call1 {f : Str} {a : E} {e1 : α → D} {e : β → D} {t : R α} {g : α → R β} (h : Rf e1 (evE Φ a env) t) (hg : ∀ x, Rf e (Φ f [e1 x]) (g x)) : Rf e (evE Φ (.call f (.cons a .nil)) env) (t.bind g) := by
  rw [z_e_call, z_es1]
  cases t with
  | ok x => rw [show evE Φ a env = _ from h, z_es0]; exact hg x
  | ex c => rw [show evE Φ a env = _ from h]; rfl
  | st => trivial
theorem x_call2 {f : Str} {a b : E} {e1 : α → D} {e2 : γ → D} {e : β → D} {t : R α} {u : R γ} {g : α → γ → R β} (h : Rf e1 (evE Φ a env) t) (h' : Rf e2 (evE Φ b env) u) (hg : ∀ x y, Rf e (Φ f [e1 x, e2 y]) (g x y)) : Rf e (evE Φ (.call f (.cons a (.cons b .nil))) env) (t.bind fun x => u.bind fun y => g x y) := by
  rw [z_e_call, z_es1]
  cases t with
  | ok x =>
    rw [show evE Φ a env = _ from h, z_es1]
    cases u with
    | ok y => rw [show evE Φ b env = _ from h', z_es0]; exact hg x y
    | ex c => rw [show evE Φ b env = _ from h']; rfl
    | st => trivial
  | ex c => rw [show evE Φ a env = _ from h]; rfl
  | st => trivial
theorem x_call3 {f : Str} {a b c : E} {e1 : α → D} {e2 : γ → D} {e3 : δ → D} {e : β → D} {t : R α} {u : R γ} {v : R δ} {g : α → γ → δ → R β} (h : Rf e1 (evE Φ a env) t) (h' : Rf e2 (evE Φ b env) u) (h'' : Rf e3 (evE Φ c env) v) (hg : ∀ x y z, Rf e (Φ f [e1 x, e2 y, e3 z]) (g x y z)) :
    Rf e (evE Φ (.call f (.cons a (.cons b (.cons c .nil)))) env) (t.bind fun x => u.bind fun y => v.bind fun z => g x y z) := by
  rw [z_e_call, z_es1]
  cases t with
  | ok x =>
    rw [show evE Φ a env = _ from h, z_es1]
    cases u with
    | ok y =>
      rw [show evE Φ b env = _ from h', z_es1]
      cases v with
      | ok z => rw [show evE Φ c env = _ from h'', z_es0]; exact hg x y z
      | ex c' => rw [show evE Φ c env = _ from h'']; rfl
      | st => trivial
    | ex c => rw [show evE Φ b env = _ from h']; rfl
    | st => trivial
  | ex c => rw [show evE Φ a env = _ from h]; rfl
  | st => trivial
theorem x_call4 {f : Str} {a b c d : E} {e1 : α → D} {e2 : γ → D} {e3 : δ → D} {e4 : ε → D} {e : β → D} {t : R α} {u : R γ} {v : R δ} {w : R ε} {g : α → γ → δ → ε → R β} (h : Rf e1 (evE Φ a env) t) (h' : Rf e2 (evE Φ b env) u) (h'' : Rf e3 (evE Φ c env) v) (h3 : Rf e4 (evE Φ d env) w) (hg : ∀ x y z q, Rf e (Φ f [e1 x, e2 y, e3 z, e4 q]) (g x y z q)) :
    Rf e (evE Φ (.call f (.cons a (.cons b (.cons c (.cons d .nil))))) env) (t.bind fun x => u.bind fun y => v.bind fun z => w.bind fun q => g x y z q) := by
  rw [z_e_call, z_es1]
  cases t with
  | ok x =>
    rw [show evE Φ a env = _ from h, z_es1]
    cases u with
    | ok y =>
      rw [show evE Φ b env = _ from h', z_es1]
      cases v with
      | ok z =>
        rw [show evE Φ c env = _ from h'', z_es1]
        cases w with
        | ok q => rw [show evE Φ d env = _ from h3, z_es0]; exact hg x y z q
        | ex c' => rw [show evE Φ d env = _ from h3]; rfl
        | st => trivial
      | ex c' => rw [show evE Φ c env = _ from h'']; rfl
      | st => trivial
    | ex c => rw [show evE Φ b env = _ from h']; rfl
    | st => trivial
  | ex c => rw [show evE Φ a env = _ from h]; rfl
  | st => trivial
/-! #### comprehensions, iteration -/
theorem n_L {a : E} {e : α → D} {t : R (List α)} (h : Rf (eL e) (evE Φ a env) t) : Rf (List.map e) (evI Φ (.e a) env) (t.bind fun l => .ok l) := by
  rw [z_ie]
  exact Rf.bind h fun l => rfl
theorem n_T {a : E} {e : α → D} {t : R (List α)} (h : Rf (eT e) (evE Φ a env) t) : Rf (List.map e) (evI Φ (.e a) env) (t.bind fun l => .ok l) := by
  rw [z_ie]
  exact Rf.bind h fun l => rfl
theorem n_S {a : E} {e : α → D} {b : Bool} {t : R (List α)} (h : Rf (eSq b e) (evE Φ a env) t) : Rf (List.map e) (evI Φ (.e a) env) (t.bind fun l => .ok l) := by
  cases b
  · exact n_L h
  · exact n_T h
theorem n_r1 {a : E} {t : R Int} (h : Rf eI (evE Φ a env) t) : Rf (List.map eI) (evI Φ (.r1 a) env) (t.bind fun n => rng 0 n) := by
  rw [z_i1]
  refine Rf.bind h fun n => ?_
  show Rf (List.map eI) (if rgOk 0 n then R.ok (rgD 0 n) else .st) _
  unfold rng
  split <;> first | rfl | trivial
theorem n_r2 {a b : E} {t u : R Int} (h : Rf eI (evE Φ a env) t) (h' : Rf eI (evE Φ b env) u) : Rf (List.map eI) (evI Φ (.r2 a b) env) (t.bind fun n => u.bind fun m => rng n m) := by
  rw [z_i2]
  refine Rf.bind h fun n => Rf.bind h' fun m => ?_
  show Rf (List.map eI) (if rgOk n m then R.ok (rgD n m) else .st) _
  unfold rng
  split <;> first | rfl | trivial
theorem n_r3 {a b : E} {t u : R Int} (h : Rf eI (evE Φ a env) t) (h' : Rf eI (evE Φ b env) u) : Rf (List.map eI) (evI Φ (.r3 a b (.bi .neg (.cons (.int 1) .nil))) env) (t.bind fun n => u.bind fun m => rng3 n m) := by
  simp only [evI]
  refine Rf.bind h fun n => Rf.bind h' fun m => ?_
  have e1 : evE Φ (.bi .neg (.cons (.int 1) .nil)) env = .ok (.int (-1)) := by simp
  rw [e1, bind_ok]
  show Rf (List.map eI) (if rgOk n m && rgOk m n && (-1 == -1 : Bool) then R.ok ((iota 0 (n - m).toNat).map fun z => PyData.int (n - z)) else .st) _
  unfold rng3
  by_cases c : (rgOk n m && rgOk m n) = true
  · rw [if_pos c, if_pos (by rw [c]; rfl)]
    show _ = R.ok _
    rw [List.map_map]
    rfl
  · rw [if_neg c]; trivial
def enumL (k : Int) : List α → List (Int × α)
  | [] => []
  | a :: r => (k, a) :: enumL (k + 1) r
theorem enumD_map {e : α → D} : ∀ (l : List α) (k : Int), enumD k (l.map e) = (enumL k l).map (eP eI e)
  | [], _ => rfl
  | a :: l, k => by simp only [List.map_cons, enumD, enumL, enumD_map l]
theorem n_en {a : E} {e : α → D} {t : R (List α)} (h : Rf (eL e) (evE Φ a env) t) : Rf (List.map (eP eI e)) (evI Φ (.en a) env) (t.bind fun l => .ok (enumL 0 l)) := by
  simp only [evI]
  refine Rf.bind h fun l => ?_
  show R.ok (enumD 0 (l.map e)) = _
  rw [enumD_map]
theorem t_no : Rf eJ (evT Φ .no env) (.ok true) := by rw [z_t0]; rfl
theorem t_yes {a : E} {t : R Bool} (h : Rf eB (evE Φ a env) t) : Rf eJ (evT Φ (.yes a) env) t := by rw [z_t1]; exact h.toB
def lcF (Φ : Phi) (own : List Nat) (tt : T) (c : Oe) (elt : E) (env : Env) (d : D) : R (Option D) := match asgT tt d (wipeS env own) with
  | none => .st
  | some env1 => match evT Φ c env1 with
    | .ok true => match evE Φ elt env1 with
      | .ok x => .ok (some x)
      | _ => .st
    | .ok false => .ok none
    | _ => .st
theorem z_lcF {own : List Nat} {tt : T} {it : I} {c : Oe} {elt : E} : evE Φ (.lc own tt it c elt) env = (evI Φ it env).bind fun ds => (compL (lcF Φ own tt c elt env) ds).bind fun l => .ok (.list l) := z_lc
theorem lc_key {own : List Nat} {tt : T} {c : Oe} {elt : E} {e1 : α → D} {e : β → D} {p : α → R Bool} {g : α → R β} (env1 : α → Env) (ha : ∀ a, asgT tt (e1 a) (wipeS env own) = some (env1 a)) (hp : ∀ a, Rf eJ (evT Φ c (env1 a)) (p a)) (hg : ∀ a, Rf e (evE Φ elt (env1 a)) (g a)) :
    ∀ l : List α, Rf (List.map e) (compL (lcF Φ own tt c elt env) (l.map e1)) (compR p g l)
  | [] => rfl
  | a :: l => by
    have ih := lc_key env1 ha hp hg l
    rw [List.map_cons]
    unfold compL compR
    have e0 : lcF Φ own tt c elt env (e1 a) = (match evT Φ c (env1 a) with
      | .ok true => match evE Φ elt (env1 a) with
        | .ok x => .ok (some x)
        | _ => .st
      | .ok false => .ok none
      | _ => .st) := by unfold lcF; rw [ha]
    rw [e0]
    have hp := hp a
    have hg := hg a
    cases q : p a with
    | ok b =>
      rw [q] at hp
      rw [show evT Φ c (env1 a) = _ from hp]
      cases b with
      | true =>
        simp only
        cases q2 : g a with
        | ok x =>
          rw [q2] at hg
          rw [show evE Φ elt (env1 a) = _ from hg]
          simp only
          cases q3 : compR p g l with
          | ok r => rw [q3] at ih; rw [show compL _ _ = _ from ih]; rfl
          | ex c => trivial
          | st => trivial
        | ex c => trivial
        | st => trivial
      | false => exact ih
    | ex c => trivial
    | st => trivial
theorem x_lc {own : List Nat} {tt : T} {it : I} {c : Oe} {elt : E} {e1 : α → D} {e : β → D} {t : R (List α)} {p : α → R Bool} {g : α → R β} (env1 : α → Env) (h : Rf (List.map e1) (evI Φ it env) t) (ha : ∀ a, asgT tt (e1 a) (wipeS env own) = some (env1 a)) (hp : ∀ a, Rf eJ (evT Φ c (env1 a)) (p a)) (hg : ∀ a, Rf e (evE Φ elt (env1 a)) (g a)) :
    Rf (eL e) (evE Φ (.lc own tt it c elt) env) (t.bind fun l => compR p g l) := by
  rw [z_lcF]
  refine Rf.bind h fun l => ?_
  have k := lc_key (own := own) env1 ha hp hg l
  cases q : compR p g l with
  | ok m => rw [q] at k; rw [show compL _ _ = _ from k]; rfl
  | ex c => rw [q] at k; rw [show compL _ _ = _ from k]; rfl
  | st => trivial
theorem compR_pp {p : α → Bool} {g : α → β} : ∀ l : List α, compR (fun a => .ok (p a)) (fun a => .ok (g a)) l = .ok ((l.filter p).map g)
  | [] => rfl
  | a :: l => by
    unfold compR
    rw [compR_pp l]
    cases q : p a <;> simp [q]
theorem compR_map {g : α → R β} : ∀ l : List α, compR (fun _ => .ok true) g l = mapR g l
  | [] => rfl
  | a :: l => by
    unfold compR mapR
    rw [compR_map l]
theorem x_lcp {own : List Nat} {tt : T} {it : I} {c : Oe} {elt : E} {e1 : α → D} {e : β → D} {t : R (List α)} {p : α → Bool} {g : α → β} (env1 : α → Env) (h : Rf (List.map e1) (evI Φ it env) t) (ha : ∀ a, asgT tt (e1 a) (wipeS env own) = some (env1 a)) (hp : ∀ a, Rf eJ (evT Φ c (env1 a)) (.ok (p a))) (hg : ∀ a, Rf e (evE Φ elt (env1 a)) (.ok (g a))) :
    Rf (eL e) (evE Φ (.lc own tt it c elt) env) (t.bind fun l => .ok ((l.filter p).map g)) := by
  refine Rf.to ?_ (x_lc env1 h ha hp hg)
  congr 1
  funext l
  exact compR_pp l
theorem x_lcm {own : List Nat} {tt : T} {it : I} {elt : E} {e1 : α → D} {e : β → D} {t : R (List α)} {g : α → R β} (env1 : α → Env) (h : Rf (List.map e1) (evI Φ it env) t) (ha : ∀ a, asgT tt (e1 a) (wipeS env own) = some (env1 a)) (hg : ∀ a, Rf e (evE Φ elt (env1 a)) (g a)) :
    Rf (eL e) (evE Φ (.lc own tt it .no elt) env) (t.bind fun l => mapR g l) := by
  refine Rf.to ?_ (x_lc env1 h ha (fun _ => t_no) hg)
  congr 1
  funext l
  exact compR_map l
theorem mapR_p {g : α → β} : ∀ l : List α, mapR (fun a => .ok (g a)) l = .ok (l.map g)
  | [] => rfl
  | a :: l => by
    unfold mapR
    rw [mapR_p l]
    rfl
theorem x_lca {own : List Nat} {tt : T} {it : I} {elt : E} {e1 : α → D} {e : β → D} {t : R (List α)} {g : α → β} (env1 : α → Env) (h : Rf (List.map e1) (evI Φ it env) t) (ha : ∀ a, asgT tt (e1 a) (wipeS env own) = some (env1 a)) (hg : ∀ a, Rf e (evE Φ elt (env1 a)) (.ok (g a))) :
    Rf (eL e) (evE Φ (.lc own tt it .no elt) env) (t.bind fun l => .ok (l.map g)) := by
  refine Rf.to ?_ (x_lcm env1 h ha hg)
  congr 1
  funext l
  exact mapR_p l
end
end PC

set_option Elab.async false
set_option linter.all false
/-! PT3: more typed readings. -/
namespace PC
open PySem
/-! ### slots that may be owned or not -/
def slb (b : Bool) (d : D) : Sl := match b with
  | true => .f d
  | false => .o d
theorem rd_slb {b : Bool} {d : D} : rdS (slb b d) = .ok d := by cases b <;> rfl
def frz1 (b : Bool) (s : Sl) : Sl := match s with
  | .o d => if b then .f d else .o d
  | s => s
theorem frzS_nil {vs : List Nat} {k : Nat} : frzS vs k [] = [] := rfl
theorem frzS_cons {vs : List Nat} {k : Nat} {s : Sl} {r : Env} : frzS vs k (s :: r) = frz1 (vs.contains k) s :: frzS vs (k + 1) r := by
  cases s <;> rfl
theorem frz_c {vs : List Nat} {k : Nat} {s s' : Sl} {r r' : Env} (h : frz1 (vs.contains k) s = s') (h' : frzS vs (k + 1) r = r') : frzS vs k (s :: r) = s' :: r' := by rw [frzS_cons, h, h']
theorem frz1_et {b : Bool} {d : D} : frz1 true (slb b d) = .f d := by cases b <;> rfl
theorem frz1_ef {b : Bool} {d : D} : frz1 false (slb b d) = slb b d := by cases b <;> rfl
theorem set_frz {vs : List Nat} {env env1 env2 : Env} {i : Nat} {s : Sl} (h : frzS vs 0 env = env1) (h' : sets env1 i s = env2) : sets (frzS vs 0 env) i s = env2 := by rw [h, h']
theorem R.assoc {α β γ : Type} (t : R α) (f : α → R β) (g : β → R γ) : (t.bind f).bind g = t.bind fun a => (f a).bind g := by cases t <;> rfl
theorem bind_id2 {α : Type} (t : R α) : t.bind R.ok = t := by cases t <;> rfl
theorem bind_id {α : Type} (t : R α) : (t.bind fun a => .ok a) = t := by cases t <;> rfl
section
variable {σ σ' ρ J J' α β : Type} {er : ρ → D} {X : Env → Prop} {mk : σ → J → Env} {Φ : Phi} {fu : Nat}
variable {i : Nat} {e : E} {r : List S} {env : Env} {enc : α → D} {t : R α} {k : α → Fl σ ρ}
theorem Sim.asgN {e' : β → D} {t : R (List β)} {k : List β → Fl σ ρ} (hfr : e.fresh = true) (env' : List β → Env) (h : Rf (eL e') (evE Φ e env) t) (hx : X env) (he : ∀ a, sets env i (.o (eL e' a)) = env' a) (he2 : ∀ a, sets (frzS e.vars 0 env) i (.o (eL e' a)) = env' a) (hk : ∀ a, Sim er X mk (evSs Φ fu r (env' a)) (k a)) : Sim er X mk (evSs Φ fu (.asg (.n i) e :: r) env) (letR t k) := by
  rw [z_go, z_asg1, onR_cons]
  refine Sim.onR h hx fun a => ?_
  have e1 : putS e i (eL e' a) env = env' a := by
    unfold putS
    rw [hfr]
    simp only
    split
    · exact he a
    · exact he2 a
  rw [e1]
  exact hk a
theorem Sim.asgNb {e' : β → D} {t : R (List β)} {k : List β → Fl σ ρ} (hfr : e.fresh = true) (env' : List β → Bool → Env) (h : Rf (eL e') (evE Φ e env) t) (hx : X env) (he : ∀ a, sets env i (.o (eL e' a)) = env' a false) (he2 : ∀ a, sets (frzS e.vars 0 env) i (.o (eL e' a)) = env' a true) (hk : ∀ a b, Sim er X mk (evSs Φ fu r (env' a b)) (k a)) : Sim er X mk (evSs Φ fu (.asg (.n i) e :: r) env) (letR t k) := by
  rw [z_go, z_asg1, onR_cons]
  refine Sim.onR h hx fun a => ?_
  have e1 : putS e i (eL e' a) env = env' a false ∨ putS e i (eL e' a) env = env' a true := by
    unfold putS
    rw [hfr]
    simp only
    split
    · exact .inl (he a)
    · exact .inr (he2 a)
  rcases e1 with e1 | e1 <;> rw [e1] <;> exact hk a _
/-- a value that may bear a list, of no new list's making -/
theorem Sim.asgS (hfr : e.fresh = false) (env' : α → Env) (h : Rf enc (evE Φ e env) t) (hx : X env) (he : ∀ a, sets env i (.f (enc a)) = env' a) (he2 : ∀ a, sets (frzS e.vars 0 env) i (.f (enc a)) = env' a) (hk : ∀ a, Sim er X mk (evSs Φ fu r (env' a)) (k a)) : Sim er X mk (evSs Φ fu (.asg (.n i) e :: r) env) (letR t k) := by
  rw [z_go, z_asg1, onR_cons]
  refine Sim.onR h hx fun a => ?_
  have e1 : putS e i (enc a) env = env' a := by
    have e0 : putS e i (enc a) env = sets (shr e.vars (enc a) env) i (.f (enc a)) := by unfold putS; rw [hfr]
    rw [e0]
    unfold shr
    split
    · exact he a
    · exact he2 a
  rw [e1]
  exact hk a
theorem Sim.asgSb (hfr : e.fresh = false) (env' : α → Bool → Env) (h : Rf enc (evE Φ e env) t) (hx : X env) (he : ∀ a, sets env i (.f (enc a)) = env' a false) (he2 : ∀ a, sets (frzS e.vars 0 env) i (.f (enc a)) = env' a true) (hk : ∀ a b, Sim er X mk (evSs Φ fu r (env' a b)) (k a)) : Sim er X mk (evSs Φ fu (.asg (.n i) e :: r) env) (letR t k) := by
  rw [z_go, z_asg1, onR_cons]
  refine Sim.onR h hx fun a => ?_
  have e1 : putS e i (enc a) env = env' a false ∨ putS e i (enc a) env = env' a true := by
    have e0 : putS e i (enc a) env = sets (shr e.vars (enc a) env) i (.f (enc a)) := by unfold putS; rw [hfr]
    rw [e0]
    unfold shr
    split
    · exact .inl (he a)
    · exact .inr (he2 a)
  rcases e1 with e1 | e1 <;> rw [e1] <;> exact hk a _
def appPopL {α σ ρ : Type} (l : List α) (m : List α) (z : Int) (k : List α → List α → Fl σ ρ) : Fl σ ρ := match seqIndex? z l.length with
  | some j => match l[j]? with
    | some a => if z.natAbs.ble 1000000000000000000 ∧ m.length < cap then k (l.eraseIdx j) (m ++ [a]) else .st
    | none => .st
  | none => .st
theorem eraseIdx_map' {e : α → β} : ∀ (l : List α) (i : Nat), (l.map e).eraseIdx i = (l.eraseIdx i).map e
  | [], i => by simp
  | x :: l, 0 => by simp
  | x :: l, i + 1 => by simp [eraseIdx_map' l i]
theorem popAt_map {e : α → D} (l : List α) (z : Int) : popAt (l.map e) z = match seqIndex? z l.length with
    | some j => if z.natAbs.ble 1000000000000000000 then (l[j]?).map fun a => (e a, (l.eraseIdx j).map e) else none
    | none => none := by
  unfold popAt
  rw [List.length_map]
  cases seqIndex? z l.length with
  | none => rfl
  | some j =>
    simp only [List.getElem?_map, eraseIdx_map', Option.map_map]
    rfl
theorem Sim.appPop {q : Nat} {e' : β → D} {l m : List β} {t : R Int} {k : List β → List β → Fl σ ρ} (hij : i ≠ q) (env' : List β → List β → Env) (h : Rf eI (evE Φ e env) t) (hx : X env) (hg : geti env i = .o (eL e' m)) (hg2 : geti env q = .o (eL e' l)) (he : ∀ a b, sets (sets env q (.o (eL e' a))) i (.o (eL e' b)) = env' a b) (hk : ∀ a b, Sim er X mk (evSs Φ fu r (env' a b)) (k a b)) :
    Sim er X mk (evSs Φ fu (.appPop i q e :: r) env) (letR t fun z => appPopL l m z k) := by
  rw [z_go]
  simp only [evS, hg, hg2, onR_cons]
  refine Sim.onR h hx fun z => ?_
  simp only [popAt_map]
  unfold appPopL
  cases seqIndex? z l.length with
  | none => trivial
  | some j =>
    simp only
    cases hj : l[j]? with
    | none => trivial
    | some a =>
      by_cases c1 : z.natAbs.ble 1000000000000000000 = true
      · by_cases c2 : m.length < cap
        · have e2 : sets (sets env q (.o (.list ((l.eraseIdx j).map e')))) i (.o (.list (m.map e' ++ [e' a]))) = env' (l.eraseIdx j) (m ++ [a]) := by
            rw [← he]
            simp only [eL, List.map_append, List.map_cons, List.map_nil]
          simp only [c1, c2, if_true, Option.map_some, List.length_map, and_self, ne_eq, hij, not_false_eq_true, e2]
          exact hk _ _
        · simp only [c2, and_false, if_false]; trivial
      · simp only [c1, false_and, if_false]; trivial
def insL {α σ ρ : Type} (l : List α) (z : Int) (a : α) (k : List α → Fl σ ρ) : Fl σ ρ := if 0 ≤ z ∧ z ≤ l.length ∧ l.length < cap then k (l.take z.toNat ++ a :: l.drop z.toNat) else .st
theorem Sim.ins {a b : E} {e' : β → D} {l : List β} {t : R Int} {u : R β} {k : List β → Fl σ ρ} (hfl : ∀ a, flat (e' a) = true) (env' : List β → Env) (h : Rf eI (evE Φ a env) t) (h' : Rf e' (evE Φ b env) u) (hx : X env) (hg : geti env i = .o (eL e' l)) (he : ∀ a, sets env i (.o (eL e' a)) = env' a) (hk : ∀ a, Sim er X mk (evSs Φ fu r (env' a)) (k a)) :
    Sim er X mk (evSs Φ fu (.ins i a b :: r) env) (letR t fun z => letR u fun v => insL l z v k) := by
  rw [z_go]
  simp only [evS, hg, onR_cons]
  refine Sim.onR h hx fun z => ?_
  refine Sim.onR h' hx fun v => ?_
  simp only [shr, if_pos (hfl v), hg]
  unfold insL
  by_cases c : 0 ≤ z ∧ z ≤ l.length ∧ l.length < cap
  · rw [if_pos c, if_pos (by rw [List.length_map]; exact c)]
    have e1 : sets env i (.o (.list ((l.map e').take z.toNat ++ e' v :: (l.map e').drop z.toNat))) = env' (l.take z.toNat ++ v :: l.drop z.toNat) := by rw [← he]; simp [eL]
    rw [e1]
    exact hk _
  · rw [if_neg c]; trivial
theorem Sim.srt {l : List Int} {t : Fl σ ρ} (env' : Env) (hg : geti env i = .o (eL eI l)) (he : sets env i (.o (eL eI (isort l))) = env') (hk : Sim er X mk (evSs Φ fu r env') t) : Sim er X mk (evSs Φ fu (.srt i :: r) env) t := by
  rw [z_go]
  simp only [evS, hg, eL, asInts_ok]
  have e1 : sets env i (.o (.list (List.map PyData.int (isort l)))) = env' := he
  rw [e1]
  exact hk
def remL {σ ρ : Type} (l : List Int) (z : Int) (k : List Int → Fl σ ρ) : Fl σ ρ := if z ∈ l then k (l.erase z) else .st
theorem Sim.rem {l : List Int} {t : R Int} {k : List Int → Fl σ ρ} (env' : List Int → Env) (h : Rf eI (evE Φ e env) t) (hx : X env) (hg : geti env i = .o (eL eI l)) (he : ∀ a, sets env i (.o (eL eI a)) = env' a) (hk : ∀ a, Sim er X mk (evSs Φ fu r (env' a)) (k a)) :
    Sim er X mk (evSs Φ fu (.rem i e :: r) env) (letR t fun z => remL l z k) := by
  rw [z_go]
  simp only [evS, hg, onR_cons]
  refine Sim.onR h hx fun z => ?_
  simp only [asInts_ok]
  unfold remL
  by_cases c : z ∈ l
  · rw [if_pos c, if_pos c]
    have e1 : sets env i (.o (.list (List.map PyData.int (l.erase z)))) = env' (l.erase z) := he _
    rw [e1]
    exact hk _
  · rw [if_neg c, if_neg c]; trivial
end
/-! ### try -/
section
variable {σ σ' ρ J J' JX JH : Type} {er : ρ → D} {X : Env → Prop} {mk : σ → J → Env} {Φ : Phi} {fu : Nat}
theorem Sim.tryJ {b h r : List S} {ks : List Str} {c : Str} {env : Env} {mk' : σ' → J' → Env} {mkX : JX → Env} {A : Fl σ' ρ} {H : Str → Fl σ' ρ} {K : σ' → Fl σ ρ} (hx : ∀ j, X (mkX j)) (hA : Sim er (fun env => ∃ j, env = mkX j) mk' (evSs Φ fu b env) A)
    (hH : ∀ k j, Sim er (fun _ => True) mk' (evSs Φ fu h (mkX j)) (H k)) (hr : ∀ s j, Sim er X mk (evSs Φ fu r (mk' s j)) (K s)) :
    Sim er X mk (evSs Φ fu (.try_ b ks c none h :: r) env) ((tryF A ks c H).seq K) := by
  rw [z_go]
  refine Sim.after (mk' := mk') ?_ hr
  simp only [evS]
  cases A with
  | nx s => obtain ⟨j, e⟩ := hA; rw [e]; exact ⟨j, rfl⟩
  | bk s => obtain ⟨j, e⟩ := hA; rw [e]; exact ⟨j, rfl⟩
  | rt v => rw [show _ = _ from hA]; rfl
  | st => trivial
  | ex k =>
    obtain ⟨env1, e, j, rfl⟩ := hA
    rw [e]
    simp only [tryF]
    by_cases c1 : ks.contains k = true
    · rw [if_pos c1, if_pos c1]
      by_cases c2 : subC k c = true
      · rw [if_pos c2, if_pos c2]
        have q := hH k j
        cases e2 : H k with
        | nx s => rw [e2] at q; obtain ⟨j', q⟩ := q; rw [q]; exact ⟨j', rfl⟩
        | bk s => rw [e2] at q; obtain ⟨j', q⟩ := q; rw [q]; exact ⟨j', rfl⟩
        | rt v => rw [e2] at q; rw [show _ = _ from q]; rfl
        | ex c => trivial
        | st => trivial
      · rw [if_neg c2, if_neg c2]; exact ⟨_, rfl, hx j⟩
    · rw [if_neg c1, if_neg c1]; trivial
theorem Sim.tryN {b h r : List S} {ks : List Str} {c : Str} {i : Nat} {env : Env} {mk' : σ' → J' → Env} {mkX : JX → Env} {mkH : σ' → JH → Env} {A : Fl σ' ρ} {H : Str → Fl σ' ρ} {K : σ' → Fl σ ρ} (envH : Str → JX → Env) (hx : ∀ j, X (mkX j)) (hA : Sim er (fun env => ∃ j, env = mkX j) mk' (evSs Φ fu b env) A)
    (he : ∀ k j, sets (mkX j) i (.x k) = envH k j) (hH : ∀ k j, Sim er (fun _ => True) mkH (evSs Φ fu h (envH k j)) (H k)) (hu : ∀ s j, ∃ j', sets (mkH s j) i .u = mk' s j') (hr : ∀ s j, Sim er X mk (evSs Φ fu r (mk' s j)) (K s)) :
    Sim er X mk (evSs Φ fu (.try_ b ks c (some i) h :: r) env) ((tryF A ks c H).seq K) := by
  rw [z_go]
  refine Sim.after (mk' := mk') ?_ hr
  simp only [evS]
  cases A with
  | nx s => obtain ⟨j, e⟩ := hA; rw [e]; exact ⟨j, rfl⟩
  | bk s => obtain ⟨j, e⟩ := hA; rw [e]; exact ⟨j, rfl⟩
  | rt v => rw [show _ = _ from hA]; rfl
  | st => trivial
  | ex k =>
    obtain ⟨env1, e, j, rfl⟩ := hA
    rw [e]
    simp only [tryF]
    by_cases c1 : ks.contains k = true
    · rw [if_pos c1, if_pos c1]
      by_cases c2 : subC k c = true
      · rw [if_pos c2, if_pos c2]
        have q := hH k j
        rw [← he] at q
        cases e2 : H k with
        | nx s => rw [e2] at q; obtain ⟨j', q⟩ := q; rw [q]; obtain ⟨j2, q2⟩ := hu s j'; exact ⟨j2, by rw [← q2]⟩
        | bk s => rw [e2] at q; obtain ⟨j', q⟩ := q; rw [q]; obtain ⟨j2, q2⟩ := hu s j'; exact ⟨j2, by rw [← q2]⟩
        | rt v => rw [e2] at q; rw [show _ = _ from q]; rfl
        | ex c => trivial
        | st => trivial
      · rw [if_neg c2, if_neg c2]; exact ⟨_, rfl, hx j⟩
    · rw [if_neg c1, if_neg c1]; trivial
theorem x_isx {env : Env} {i : Nat} {c k : Str} (h : geti env i = .x k) : Rf eB (evE Φ (.isx i c) env) (.ok (subC k c)) := by
  simp only [evE, h]
  rfl
end
/-! ### trees compared, options -/
def eqTrB (a b : Tr) : R Bool := if SeqAt.shaped (eTr a) && SeqAt.shaped (eTr b) then .ok (PyData.eqv (eTr a) (eTr b)) else .st
def neTrB (a b : Tr) : R Bool := (eqTrB a b).bind fun c => .ok (!c)
theorem m_eqTr (a b : Tr) : Rf eJ (evCm .eq (eTr a) (eTr b)) (eqTrB a b) := by
  show Rf eJ (eqD (eTr a) (eTr b)) _
  unfold eqD eqTrB
  by_cases c : (SeqAt.shaped (eTr a) && SeqAt.shaped (eTr b)) = true
  · rw [if_pos c, if_pos (by rw [c, Bool.or_true])]; rfl
  · rw [if_neg c]; trivial
theorem m_neTr (a b : Tr) : Rf eJ (evCm .ne (eTr a) (eTr b)) (neTrB a b) := Rf.notR (m_eqTr a b)
def eqOTrB (a b : Option Tr) : R Bool := if SeqAt.shaped (eO eTr a) && SeqAt.shaped (eO eTr b) then .ok (PyData.eqv (eO eTr a) (eO eTr b)) else .st
def neOTrB (a b : Option Tr) : R Bool := (eqOTrB a b).bind fun c => .ok (!c)
theorem m_eqOTr (a b : Option Tr) : Rf eJ (evCm .eq (eO eTr a) (eO eTr b)) (eqOTrB a b) := by
  show Rf eJ (eqD (eO eTr a) (eO eTr b)) _
  unfold eqD eqOTrB
  by_cases c : (SeqAt.shaped (eO eTr a) && SeqAt.shaped (eO eTr b)) = true
  · rw [if_pos c, if_pos (by rw [c, Bool.or_true])]; rfl
  · rw [if_neg c]; trivial
theorem m_neOTr (a b : Option Tr) : Rf eJ (evCm .ne (eO eTr a) (eO eTr b)) (neOTrB a b) := Rf.notR (m_eqOTr a b)
/-- against the empty list -/
def eqNil {α : Type} (e : α → D) (l : List α) : R Bool := if SeqAt.shaped (eL e l) then .ok l.isEmpty else .st
def neNil {α : Type} (e : α → D) (l : List α) : R Bool := (eqNil e l).bind fun c => .ok (!c)
theorem m_eqNil {α : Type} {e : α → D} (l : List α) (x : List α) (hx : x = []) : Rf eJ (evCm .eq (eL e l) (eL e x)) (eqNil e l) := by
  subst hx
  show Rf eJ (eqD (eL e l) (eL e [])) _
  unfold eqD eqNil
  by_cases c : SeqAt.shaped (eL e l) = true
  · rw [if_pos c, if_pos (by rw [c]; rfl)]
    cases l <;> simp [PyData.eqv, PyData.eqvAll, Rf]
  · rw [if_neg c]; trivial
theorem m_neNil {α : Type} {e : α → D} (l : List α) (x : List α) (hx : x = []) : Rf eJ (evCm .ne (eL e l) (eL e x)) (neNil e l) := Rf.notR (m_eqNil l x hx)
/-- None in a list -/
def noneIn {α : Type} (e : α → D) (l : List (Option α)) : R Bool := if SeqAt.shaped (eL (eO e) l) then .ok (l.any Option.isNone) else .st
theorem none_any {α : Type} {e : α → D} (nn : Nn e) : ∀ l : List (Option α), ((l.map (eO e)).any fun z => PyData.eqv z .none) = l.any Option.isNone
  | [] => rfl
  | a :: l => by
    simp only [List.map_cons, List.any_cons, none_any nn l]
    congr 1
    cases a with
    | none => simp [eO, PyData.eqv]
    | some a => exact (nn a).2
theorem m_noneInL {α : Type} {e : α → D} (nn : Nn e) (x : Unit) (l : List (Option α)) : Rf eJ (evCm .in_ (eN x) (eL (eO e) l)) (noneIn e l) := by
  show Rf eJ (inD .none (eL (eO e) l)) _
  unfold inD noneIn
  have h0 : SeqAt.shaped .none = true := rfl
  by_cases c : SeqAt.shaped (eL (eO e) l) = true
  · rw [if_pos c]
    simp only [h0, c, Bool.and_self, if_true, none_any nn]
    rfl
  · rw [if_neg c]; trivial
def Tr.node_ : Tr → R (Bool × List Tr)
  | .leaf _ => .st
  | .node w ps => .ok (w, ps)
theorem cp_node (a : Tr) : Rf (eP eW (eT eTr)) (.ok (eTr a)) (Tr.node_ a) := by
  cases a with
  | leaf i => trivial
  | node w ps => show R.ok (eTr (.node w ps)) = .ok _; rw [eTr, eTrs_map]
theorem m_neWa (x : Bool) : Rf eJ (evCm .ne (eW x) (eS "any")) (.ok (!x)) := by cases x <;> rfl
theorem m_neWr (x : Bool) : Rf eJ (evCm .ne (eW x) (eS "row")) (.ok x) := by cases x <;> rfl
theorem c_oneV {Φ : Phi} {env : Env} {β : Type} {c : Cm} {b : E} {d : D} {e : β → D} {y : β} {g : R Bool} (h : Rf e (evE Φ b env) (.ok y)) (hg : Rf eJ (evCm c d (e y)) g) : Rf eB (evC Φ (.one c b) d env) g := by
  rw [z_c1, show evE Φ b env = _ from h, bind_ok]
  exact hg.flt
theorem x_lcf {Φ : Phi} {env : Env} {α : Type} {own : List Nat} {tt : T} {it : I} {c : Oe} {elt : E} {e : α → D} {t : R (List α)} {p : α → Bool} (env1 : α → Env) (h : Rf (List.map e) (evI Φ it env) t) (ha : ∀ a, asgT tt (e a) (wipeS env own) = some (env1 a)) (hp : ∀ a, Rf eJ (evT Φ c (env1 a)) (.ok (p a))) (hg : ∀ a, Rf e (evE Φ elt (env1 a)) (.ok a)) :
    Rf (eL e) (evE Φ (.lc own tt it c elt) env) (t.bind fun l => .ok (l.filter p)) := by
  refine Rf.to ?_ (x_lcp (g := fun a => a) env1 h ha hp hg)
  congr 1
  funext l
  rw [List.map_id']
theorem x_lci {Φ : Phi} {env : Env} {α : Type} {own : List Nat} {tt : T} {it : I} {elt : E} {e : α → D} {t : R (List α)} (env1 : α → Env) (h : Rf (List.map e) (evI Φ it env) t) (ha : ∀ a, asgT tt (e a) (wipeS env own) = some (env1 a)) (hg : ∀ a, Rf e (evE Φ elt (env1 a)) (.ok a)) :
    Rf (eL e) (evE Φ (.lc own tt it .no elt) env) (t.bind fun l => .ok l) := by
  refine Rf.to ?_ (x_lca (g := fun a => a) env1 h ha hg)
  congr 1
  funext l
  rw [List.map_id']
/-! ### methods -/
theorem x_mth {Φ : Phi} {env : Env} {α β γ : Type} {m : Mt} {a b : E} {e1 : α → D} {e2 : β → D} {e : γ → D} {t : R α} {u : R β} {g : α → β → R γ} (h : Rf e1 (evE Φ a env) t) (h' : Rf e2 (evE Φ b env) u) (ho : ∀ x, mOk m (e1 x) = true) (hg : ∀ x y, Rf e (evMt m (e1 x) (e2 y)) (g x y)) : Rf e (evE Φ (.mth m a b) env) (t.bind fun x => u.bind fun y => g x y) := by
  rw [z_e_mth]
  refine Rf.bind h fun x => ?_
  rw [if_pos (ho x)]
  exact Rf.bind h' fun y => hg x y
theorem mt_count (l : List Int) (i : Int) : Rf eI (evMt .count (eL eI l) (eI i)) (.ok (l.count i : Int)) := by
  unfold evMt
  simp only [eL, asInts_ok]
  rfl
def idxOf {α : Type} [DecidableEq α] (l : List α) (a : α) (k : Int) : Option Int := match l with
  | [] => none
  | z :: r => if z = a then some k else idxOf r a (k + 1)
def indexR {α : Type} [DecidableEq α] (l : List α) (a : α) : R Int := match idxOf l a 0 with
  | some k => .ok k
  | none => .st
theorem indexD_map {α : Type} [DecidableEq α] {e : α → D} {n : Nat} (q : Eqe e n) (a : α) : ∀ (l : List α) (k : Int), indexD (l.map e) (e a) k = idxOf l a k
  | [], k => rfl
  | z :: l, k => by
    simp only [List.map_cons, indexD, idxOf, q.eqv, indexD_map q a l]
    by_cases h : z = a <;> simp [h]
theorem mt_indexL {α : Type} [DecidableEq α] {e : α → D} {n : Nat} (q : Eqe e n) (hn : n ≤ 62) (l : List α) (a : α) : Rf e (.ok (e a)) (.ok a) → Rf eI (evMt .index (eL e l) (e a)) (indexR l a) := fun _ => by
  unfold evMt indexR
  have h1 := q_sh (q_L q) (by omega) l
  simp only [h1, q_sh q (show n ≤ 64 by omega) a, Bool.and_self, if_true, indexD_map q]
  cases idxOf l a 0 with
  | none => trivial
  | some k => rfl
def tixR (ys : List Str) (s : Str) : R Int := if s ∈ ys then .ok (ys.idxOf s : Nat) else .st
theorem b_tix {ys : List Str} (s : Str) : Rf eI (evBi (.tix ys) [eS s]) (tixR ys s) := by
  show Rf eI (if s ∈ ys then R.ok (PyData.int (ys.idxOf s : Nat)) else .st) _
  unfold tixR
  split <;> first | rfl | trivial
def Tr.isBool : Tr → R Bool
  | .leaf _ => .ok false
  | .node _ _ => .st
def Tr.len : Tr → R Int
  | .leaf _ => .st
  | .node _ _ => .ok 2
theorem b_lenTr (t : Tr) : Rf eI (evBi .len [eTr t]) (Tr.len t) := by
  cases t with
  | leaf i => trivial
  | node w ps => rw [eTr]; rfl
theorem b_isTupTr (t : Tr) : Rf eB (evBi .isTup [eTr t]) (.ok (!t.isLeaf)) := by
  cases t with
  | leaf i => rw [eTr]; rfl
  | node w ps => rw [eTr]; rfl
theorem b_isBoolTr (t : Tr) : Rf eB (evBi .isBool [eTr t]) (Tr.isBool t) := by
  cases t with
  | leaf i => rw [eTr]; rfl
  | node w ps => trivial
theorem b_isTupO {α : Type} {e : α → D} (he : ∀ a, ∃ l, e a = .tuple l) (o : Option α) : Rf eB (evBi .isTup [eO e o]) (.ok o.isSome) := by
  cases o with
  | none => rfl
  | some a =>
    obtain ⟨l, h⟩ := he a
    show evBi .isTup [e a] = _
    rw [h]; rfl
theorem b_inW (w : Bool) : Rf eB (evBi (.inC [.str "any", .str "row"]) [eW w]) (.ok true) := by
  show (if SeqAt.shaped (eW w) && SeqAt.shaped (eT eW [true, false]) then R.ok (PyData.bool _) else .st) = _
  rw [q_sh q_W (by decide) w, q_sh (q_T q_W) (by decide) [true, false]]
  cases w <;> rfl
theorem b_ninW (w : Bool) : Rf eB (evBi (.ninC [.str "any", .str "row"]) [eW w]) (.ok false) := by
  show (if SeqAt.shaped (eW w) && SeqAt.shaped (eT eW [true, false]) then R.ok (PyData.bool _) else .st) = _
  rw [q_sh q_W (by decide) w, q_sh (q_T q_W) (by decide) [true, false]]
  cases w <;> rfl
theorem b_isIntTt {α : Type} {e : α → D} (l : List α) : Rf eB (evBi .isInt [eT e l]) (.ok false) := rfl
theorem b_isStrTt {α : Type} {e : α → D} (l : List α) : Rf eB (evBi .isStr [eT e l]) (.ok false) := rfl
theorem b_isTupTt {α : Type} {e : α → D} (l : List α) : Rf eB (evBi .isTup [eT e l]) (.ok true) := rfl
theorem b_isTupP {α β : Type} {e : α → D} {e' : β → D} (l : α × β) : Rf eB (evBi .isTup [eP e e' l]) (.ok true) := rfl
theorem b_isTupP3 {α β γ : Type} {e : α → D} {e' : β → D} {e'' : γ → D} (l : α × β × γ) : Rf eB (evBi .isTup [eP3 e e' e'' l]) (.ok true) := rfl
/-! ### sorted pairs -/
def leP (p q : Int × Int) : Bool := decide (p.1 < q.1 ∨ (p.1 = q.1 ∧ p.2 ≤ q.2))
theorem sortOk_P (l : List (Int × Int)) : sortOk (l.map (eP eI eI)) = true := by
  have h3 : ∀ l : List (Int × Int), PyData.depthAll (l.map (eP eI eI)) ≤ 1 := by
    intro l
    induction l with
    | nil => simp [PyData.depthAll]
    | cons a l ih =>
      simp [PyData.depthAll, PyData.depth, eP]
      first | omega | (simp [eP] at ih ⊢; omega)
  unfold sortOk
  simp only [Bool.and_eq_true, Bool.or_eq_true, List.all_eq_true, decide_eq_true_eq]
  refine ⟨⟨fun d hd e he => ?_, .inl fun d hd => ?_⟩, Nat.le_trans (h3 l) (by omega)⟩
  · obtain ⟨a, _, rfl⟩ := List.mem_map.mp hd
    obtain ⟨b, _, rfl⟩ := List.mem_map.mp he
    simp [W.alike, W.alikeAll, eP]
  · obtain ⟨a, _, rfl⟩ := List.mem_map.mp hd
    rfl
theorem b_sortP (l : List (Int × Int)) : Rf (eL (eP eI eI)) (evBi .sorted [eL (eP eI eI) l]) (.ok (l.mergeSort leP)) := by
  have hl : W.dataLe false id = W.dataLe false (fun d : D => d) := rfl
  have key : (l.map (eP eI eI)).mergeSort (W.dataLe false id) = (l.mergeSort leP).map (eP eI eI) := by
    symm
    apply List.map_mergeSort
    intro a _ b _
    have := congrFun (congrFun (W.dataLe_ii (β := Int × Int) (fun p => p.1) (fun p => p.2)) a) b
    exact this.symm
  cases l with
  | nil =>
    have : ([] : List (Int × Int)).mergeSort leP = [] := by simp
    rw [this]; rfl
  | cons a l =>
    unfold evBi
    have : asInts ((a :: l).map (eP eI eI)) = none := rfl
    simp only [eL, this]
    rw [if_pos (sortOk_P (a :: l)), key]
    rfl
end PC

set_option Elab.async false
set_option linter.all false
set_option maxRecDepth 100000
namespace PC
open PySem
def f_is_size : Nat → Int → R Bool
  | 0, _ => .st
  | k + 1, n => Fl.run (
    letR (.ok (decide (1 ≤ n) && (decide (n ≤ 24)))) fun v => .rt v) .st

def f_check_things : Nat → Int → R Int
  | 0, _ => .st
  | k + 1, n => Fl.run (
    cnd (((f_is_size k n)).bind fun t => .ok (!t))
      (.ex "OutOfRange")
      (letR (.ok n) fun v => .rt v)) .st

def f_is_set : Nat → Int → (List Int) → R Bool
  | 0, _, _ => .st
  | k + 1, n, chosen => Fl.run (
    Fl.seq (letR (rng 0 ((chosen).length : Int)) fun l => forL l () fun at_ (s1 : Unit) =>
      cnd (((((atL chosen at_)).bind fun t => .ok (decide (0 ≤ t) && (decide (t < n))))).bind fun t1 => .ok (!t1))
        (letR (.ok false) fun v => .rt v)
        (cnd (if (decide (0 < at_)) then (((atL chosen (at_ - 1))).bind fun t2 => ((atL chosen at_)).bind fun t3 => .ok (decide (t3 ≤ t2))) else .ok false)
        (letR (.ok false) fun v => .rt v)
        (.nx ()))) fun (s1 : Unit) =>
    letR (.ok true) fun v => .rt v) .st

def f_check_set : Nat → Int → (List Int) → R (List Int)
  | 0, _, _ => .st
  | k + 1, n, chosen => Fl.run (
    cnd (((((f_is_size k n)).bind fun t => .ok (!t))).bind fun t2 => (if t2 then .ok true else (((f_is_set k n chosen)).bind fun t1 => .ok (!t1))))
      (.ex "InvalidTable")
      (letR (.ok chosen) fun v => .rt v)) .st

def f_check_table : Nat → Int → (List (List Int)) → R (List (List Int))
  | 0, _, _ => .st
  | k + 1, n, sets => Fl.run (
    cnd (((((f_is_size k n)).bind fun t => .ok (!t))).bind fun t1 => .ok (t1 || (decide (40 < ((sets).length : Int)))))
      (.ex "InvalidTable")
      (Fl.seq (letR (.ok sets) fun l => forL l () fun chosen (s1 : Unit) =>
      letR (f_check_set k n chosen) fun _ =>
      .nx ()) fun (s1 : Unit) =>
    letR (.ok sets) fun v => .rt v)) .st

def f_check_order : Nat → Int → (List Int) → R (List Int)
  | 0, _, _ => .st
  | k + 1, n, order => Fl.run (
    cnd (((((f_is_size k n)).bind fun t => .ok (!t))).bind fun t2 => (if t2 then .ok true else (((rng 0 n)).bind fun t1 => .ok (!decide ((isort order) = t1)))))
      (.ex "InvalidOrder")
      (letR (.ok order) fun v => .rt v)) .st

def f_law_cell : Nat → (List Int) → Int → R Int
  | 0, _, _ => .st
  | k + 1, script, k_ => Fl.run (
    cnd (.ok (decide (k_ < ((script).length : Int))))
      (letR (atL script k_) fun v => .rt v)
      (letR (.ok 0) fun v => .rt v)) .st

def f_law_digits : Nat → Int → (List Int) → R (List Int)
  | 0, _, _ => .st
  | k + 1, cell_here, sizes => Fl.run (
    letR (.ok ([] : (List Int))) fun row =>
    Fl.seq (letR (.ok sizes) fun l => forL l (cell_here, row) fun size (s1 : Int × (List Int)) =>
      letR (tmod s1.1 size) fun t => appL s1.2 t fun row1 =>
      letR (tdiv s1.1 size) fun cell_here1 =>
      .nx (cell_here1, row1)) fun (s1 : Int × (List Int)) =>
    letR (.ok s1.2) fun v => .rt v) .st

def f_law_rich : Nat → Int → R Int
  | 0, _ => .st
  | k + 1, cell_here => Fl.run (
    cnd (((tpow 10 18)).bind fun t => .ok (decide (t ≤ cell_here)))
      (letR (.ok cell_here) fun v => .rt v)
      (letR (((((((tmul cell_here 48271)).bind fun t1 => .ok (t1 + 11))).bind fun t2 => .ok t2)).bind fun t3 => (tmod t3 2147483647)) fun low =>
    letR (((((((((tmul low 69621)).bind fun t4 => ((tdiv cell_here 7)).bind fun t5 => .ok (t4 + t5))).bind fun t6 => .ok (t6 + 5))).bind fun t7 => .ok t7)).bind fun t8 => (tmod t8 2147483629)) fun high =>
    letR (((tmul low 2147483629)).bind fun t9 => .ok (t9 + high)) fun v => .rt v)) .st

def f_law_order : Nat → Int → Int → R (List Int)
  | 0, _, _ => .st
  | k + 1, cell_here, n => Fl.run (
    letR (((rng 0 n)).bind fun t => .ok t) fun left =>
    letR (f_law_rich k cell_here) fun rest =>
    letR (.ok ([] : (List Int))) fun order_here =>
    Fl.seq (letR (rng 0 n) fun l => forL l (left, rest, order_here) fun k_ (s1 : (List Int) × Int × (List Int)) =>
      letR (tmod s1.2.1 (n - k_)) fun t1 => appPopL s1.1 s1.2.2 t1 fun left1 order_here1 =>
      letR (tdiv s1.2.1 (n - k_)) fun rest1 =>
      Fl.seq (cnd (.ok (decide (rest1 = 0)))
        (letR (f_law_rich k ((cell_here + k_) + 1)) fun rest2 =>
        .nx (rest2))
        (.nx (rest1))) fun (s2 : Int) =>
      .nx (left1, s2, order_here1)) fun (s1 : (List Int) × Int × (List Int)) =>
    letR (.ok s1.2.2) fun v => .rt v) .st

def f_law_set : Nat → Int → Int → R (List Int)
  | 0, _, _ => .st
  | k + 1, cell_here, n => Fl.run (
    letR (f_law_rich k cell_here) fun bits =>
    letR (((((rng 0 n)).bind fun t6 => (compR (fun thing => (((((((((tdiv bits (thing + 1))).bind fun t1 => ((((tmul thing thing)).bind fun t => .ok (1 + t))).bind fun t2 => (tdiv t1 t2))).bind fun t3 => .ok t3)).bind fun t4 => (tmod t4 2))).bind fun t5 => .ok (decide (t5 = 1)))) (fun thing => (.ok thing)) t6))).bind fun t7 => .ok t7) fun v => .rt v) .st

def f_law_stretch : Nat → Int → (List Int) → R (List Int)
  | 0, _, _ => .st
  | k + 1, cell_here, order_here => Fl.run (
    letR (((f_law_rich k cell_here)).bind fun t => (f_law_digits k t [((order_here).length : Int), ((order_here).length : Int)])) fun d =>
    letR (((atL d 0)).bind fun t1 => ((atL d 1)).bind fun t2 => .ok (if t2 < t1 then t2 else t1)) fun low =>
    letR (((atL d 0)).bind fun t3 => ((atL d 1)).bind fun t4 => .ok (if t4 > t3 then t4 else t3)) fun high =>
    letR (.ok (isort (cutL order_here (some low) (some (high + 1))))) fun v => .rt v) .st

def f_law_table : Nat → (List Int) → Int → Int → (List Int) → R (List (List Int))
  | 0, _, _, _, _ => .st
  | k + 1, script, at_, n, order_here => Fl.run (
    letR (.ok ([] : (List (List Int)))) fun sets =>
    Fl.seq (letR (rng 0 8) fun l => forL l (sets) fun k_ (s1 : (List (List Int))) =>
      Fl.seq (cnd (.ok (decide ((at_ + k_) < ((script).length : Int))))
        (letR (((f_law_cell k script (at_ + k_))).bind fun t => .ok (t + k_)) fun cell_here =>
        Fl.seq (cnd (((tmod cell_here 8)).bind fun t1 => .ok (decide (t1 = 3)))
          (letR (((tdiv cell_here 8)).bind fun t2 => (f_law_set k t2 n)) fun t3 => appL s1 t3 fun sets1 =>
          .nx (sets1))
          (letR (((tdiv cell_here 8)).bind fun t4 => (f_law_stretch k t4 order_here)) fun t5 => appL s1 t5 fun sets2 =>
          .nx (sets2))) fun (s3 : (List (List Int))) =>
        .nx (s3))
        (.nx (s1))) fun (s2 : (List (List Int))) =>
      .nx (s2)) fun (s1 : (List (List Int))) =>
    letR (.ok s1) fun v => .rt v) .st

def f_law_is_bool : Nat → Bool → Bool → R Bool
  | 0, _, _ => .st
  | k + 1, actual, due => Fl.run (
    letR (.ok (true && (decide (actual = due)))) fun v => .rt v) .st

def f_law_together : Nat → (List Int) → (List Int) → R Bool
  | 0, _, _ => .st
  | k + 1, order_here, chosen => Fl.run (
    letR (((rng 0 ((order_here).length : Int))).bind fun t1 => (compR (fun place => (((atL order_here place)).bind fun t => .ok (memB t chosen))) (fun place => (.ok place)) t1)) fun places =>
    letR (if (decide (((places).length : Int) < 2)) then .ok true else (((((atL places (-1))).bind fun t2 => ((atL places 0)).bind fun t3 => .ok (t2 - t3))).bind fun t4 => .ok (decide (t4 = (((places).length : Int) - 1))))) fun v => .rt v) .st

def f_is_thing : Nat → Tr → R Bool
  | 0, _ => .st
  | k + 1, tree => Fl.run (
    letR (.ok (Tr.isLeaf tree)) fun v => .rt v) .st

def f_is_thing_1 : Nat → (List Tr) → R Bool
  | 0, _ => .st
  | k + 1, tree => Fl.run (
    letR (.ok false) fun v => .rt v) .st

def f_listed : Nat → Tr → R (List Int)
  | 0, _ => .st
  | k + 1, tree => Fl.run (
    cnd (f_is_thing k tree)
      (letR (((Tr.thing tree)).bind fun t => .ok [t]) fun v => .rt v)
      (letR (.ok ([] : (List Int))) fun found =>
    Fl.seq (letR (((Tr.parts tree)).bind fun t1 => .ok t1) fun l => forL l (found) fun part (s1 : (List Int)) =>
      letR (f_listed k part) fun t2 => extL s1 t2 fun found1 =>
      .nx (found1)) fun (s1 : (List Int)) =>
    letR (.ok s1) fun v => .rt v)) .st

def f_has_form : Nat → Tr → R Bool
  | 0, _ => .st
  | k + 1, tree => Fl.run (
    cnd (f_is_thing k tree)
      (letR (.ok true) fun v => .rt v)
      (cnd (((((Tr.len tree)).bind fun t => .ok (!decide (t = 2)))).bind fun t6 => (if t6 then .ok true else (((((Tr.word tree)).bind fun t1 => .ok false)).bind fun t5 => (if t5 then .ok true else (((((Tr.parts tree)).bind fun t2 => (f_is_thing_1 k t2))).bind fun t4 => (if t4 then .ok true else (((Tr.parts tree)).bind fun t3 => .ok false)))))))
      (letR (.ok false) fun v => .rt v)
      (cnd (((((((Tr.parts tree)).bind fun t7 => .ok ((t7).length : Int))).bind fun t8 => .ok (decide (t8 < 2)))).bind fun t13 => (if t13 then .ok true else (((((Tr.word tree)).bind fun t9 => .ok (!t9))).bind fun t12 => (if t12 then (((((Tr.parts tree)).bind fun t10 => .ok ((t10).length : Int))).bind fun t11 => .ok (decide (t11 < 3))) else .ok false))))
      (letR (.ok false) fun v => .rt v)
      (letR (((((((Tr.parts tree)).bind fun t14 => .ok t14)).bind fun t15 => (mapR (fun part => (f_has_form k part)) t15))).bind fun t16 => .ok ((t16).all id)) fun v => .rt v)))) .st

def f_check_tree : Nat → Int → Tr → R Tr
  | 0, _, _ => .st
  | k + 1, n, tree => Fl.run (
    cnd (((((f_is_size k n)).bind fun t => .ok (!t))).bind fun t6 => (if t6 then .ok true else (((((f_has_form k tree)).bind fun t1 => .ok (!t1))).bind fun t5 => (if t5 then .ok true else (((((f_listed k tree)).bind fun t2 => .ok (isort t2))).bind fun t3 => ((rng 0 n)).bind fun t4 => .ok (!decide (t3 = t4)))))))
      (.ex "InvalidTree")
      (letR (.ok tree) fun v => .rt v)) .st

def f_things_of : Nat → Tr → R (List Int)
  | 0, _ => .st
  | k + 1, tree => Fl.run (
    cnd (((f_has_form k tree)).bind fun t => .ok (!t))
      (.ex "InvalidTree")
      (letR (((((f_listed k tree)).bind fun t1 => .ok (isort t1))).bind fun t2 => .ok t2) fun found =>
    cnd (((((atL found 0)).bind fun t3 => .ok (decide (t3 < 0)))).bind fun t5 => (if t5 then .ok true else (((lenSetR found)).bind fun t4 => .ok (decide (t4 < ((found).length : Int))))))
      (.ex "InvalidTree")
      (letR (.ok found) fun v => .rt v))) .st

def f_law_things : Nat → Tr → R (List Int)
  | 0, _ => .st
  | k + 1, tree_here => Fl.run (
    cnd (.ok (Tr.isLeaf tree_here))
      (letR (((Tr.thing tree_here)).bind fun t => .ok [t]) fun v => .rt v)
      (letR (.ok ([] : (List Int))) fun found =>
    Fl.seq (letR (((Tr.parts tree_here)).bind fun t1 => .ok t1) fun l => forL l (found) fun part (s2 : (List Int)) =>
      letR (((f_law_things k part)).bind fun t2 => (catL s2 t2)) fun found1 =>
      .nx (found1)) fun (s2 : (List Int)) =>
    letR (.ok s2) fun v => .rt v)) .st

def f_law_tree : Nat → Int → Int → R Tr
  | 0, _, _ => .st
  | k + 1, cell_here, n => Fl.run (
    letR ((((f_law_order k cell_here n)).bind fun t => .ok t).bind fun a => .ok ((List.map Tr.leaf) a)) fun parts =>
    letR (((((tdiv cell_here 3)).bind fun t1 => .ok (t1 + 7))).bind fun t2 => (f_law_rich k t2)) fun rest =>
    Fl.seq (letR (rng 0 30) fun l => forL l (parts, rest) fun step (s2 : (List Tr) × Int) =>
      cnd (.ok (decide (((s2.1).length : Int) < 2)))
        (.bk (s2.1, s2.2))
        (letR (((tmod s2.2 4)).bind fun t3 => .ok (2 + t3)) fun size =>
      Fl.seq (cnd (((((((tdiv s2.2 1024)).bind fun t4 => .ok t4)).bind fun t5 => (tmod t5 8))).bind fun t6 => .ok (decide (t6 = 5)))
        (letR (.ok 24) fun size1 =>
        .nx (size1))
        (.nx (size))) fun (s3 : Int) =>
      letR (((((tdiv s2.2 4)).bind fun t7 => .ok t7)).bind fun t8 => (tmod t8 ((s2.1).length : Int))) fun at_ =>
      letR (.ok (cutL s2.1 (some at_) (some (at_ + s3)))) fun chosen =>
      Fl.seq (cnd (.ok (decide (1 < ((chosen).length : Int))))
        (letR (.ok true) fun word =>
        Fl.seq (cnd (if (decide (2 < ((chosen).length : Int))) then (((((((tdiv s2.2 64)).bind fun t9 => .ok t9)).bind fun t10 => (tmod t10 2))).bind fun t11 => .ok (decide (t11 = 1))) else .ok false)
          (letR (.ok false) fun word1 =>
          .nx (word1))
          (.nx (word))) fun (s5 : Bool) =>
        letR (((catL (cutL s2.1 none (some at_)) [(Tr.node s5 chosen)])).bind fun t12 => (catL t12 (cutL s2.1 (some (at_ + s3)) none))) fun parts1 =>
        .nx (parts1))
        (.nx (s2.1))) fun (s4 : (List Tr)) =>
      letR (((((tdiv s2.2 5)).bind fun t13 => ((tmul 1000003 step)).bind fun t14 => .ok (t13 + t14))).bind fun t15 => .ok (t15 + 17)) fun rest1 =>
      .nx (s4, rest1))) fun (s2 : (List Tr) × Int) =>
    Fl.seq (cnd (.ok (decide (1 < ((s2.1).length : Int))))
      (letR (.ok [(Tr.node true s2.1)]) fun parts2 =>
      .nx (parts2))
      (.nx (s2.1))) fun (s6 : (List Tr)) =>
    letR (atL s6 0) fun v => .rt v) .st

def f_least_thing : Nat → Tr → R Int
  | 0, _ => .st
  | k + 1, tree => Fl.run (
    letR (((f_listed k tree)).bind fun t => (minI t)) fun v => .rt v) .st

def f_make_any : Nat → (List Tr) → R Tr
  | 0, _ => .st
  | k + 1, parts => Fl.run (
    cnd (.ok (decide (((parts).length : Int) = 1)))
      (letR (atL parts 0) fun v => .rt v)
      (letR (.ok (Tr.node true parts)) fun v => .rt v)) .st

def f_normalized : Nat → Tr → R Tr
  | 0, _ => .st
  | k + 1, tree => Fl.run (
    cnd (f_is_thing k tree)
      (letR (.ok tree) fun v => .rt v)
      (letR (((((Tr.parts tree)).bind fun t => .ok t)).bind fun t1 => (mapR (fun part => (f_normalized k part)) t1)) fun parts =>
    cnd (((Tr.word tree)).bind fun t2 => .ok t2)
      (letR (((mapR (fun p => (((f_least_thing k (p).2)).bind fun t3 => .ok (t3, (p).1))) (enumL 0 parts))).bind fun t4 => .ok ((t4).mergeSort leP)) fun order =>
      letR (((((mapR (fun p1 => (atL parts (p1).2)) order)).bind fun t5 => .ok t5)).bind fun t6 => .ok (Tr.node true t6)) fun v => .rt v)
      (Fl.seq (cnd (((((atL parts 0)).bind fun t7 => (f_least_thing k t7))).bind fun t9 => ((((atL parts (-1))).bind fun t8 => (f_least_thing k t8))).bind fun t10 => .ok (decide (t10 < t9)))
      (letR (.ok (List.reverse parts)) fun parts1 =>
      .nx (parts1))
      (.nx (parts))) fun (s : (List Tr)) =>
    letR (.ok (Tr.node false s)) fun v => .rt v))) .st

def f_normal : Nat → Tr → R Tr
  | 0, _ => .st
  | k + 1, tree => Fl.run (
    letR (f_things_of k tree) fun _ =>
    letR (f_normalized k tree) fun v => .rt v) .st

def f_plain_tree : Nat → Int → R Tr
  | 0, _ => .st
  | k + 1, n => Fl.run (
    letR (f_check_things k n) fun _ =>
    letR ((((rng 0 n).bind fun a => .ok ((List.map Tr.leaf) a))).bind fun t => (f_make_any k t)) fun v => .rt v) .st

def f_law_shuffled : Nat → Tr → Int → R Tr
  | 0, _, _ => .st
  | k + 1, tree_here, cell_here => Fl.run (
    cnd (.ok (Tr.isLeaf tree_here))
      (letR (.ok tree_here) fun v => .rt v)
      (letR (.ok ([] : (List Tr))) fun parts =>
    letR (f_law_rich k cell_here) fun rest =>
    Fl.seq (letR (((Tr.parts tree_here)).bind fun t => .ok t) fun l => forL l (parts, rest) fun part (s1 : (List Tr) × Int) =>
      letR (((((tdiv s1.2 3)).bind fun t1 => .ok (t1 + 5))).bind fun t2 => (f_law_shuffled k part t2)) fun told =>
      Fl.seq (cnd (((Tr.word tree_here)).bind fun t3 => .ok t3)
        (letR (tmod s1.2 (((s1.1).length : Int) + 1)) fun t4 => letR (.ok told) fun t5 => insL s1.1 t4 t5 fun parts1 =>
        .nx (parts1))
        (letR (.ok told) fun t6 => appL s1.1 t6 fun parts2 =>
        .nx (parts2))) fun (s2 : (List Tr)) =>
      letR (((tdiv s1.2 7)).bind fun t7 => .ok (t7 + 99)) fun rest1 =>
      .nx (s2, rest1)) fun (s1 : (List Tr) × Int) =>
    Fl.seq (cnd (((((Tr.word tree_here)).bind fun t8 => .ok (!t8))).bind fun t10 => (if t10 then (((tmod cell_here 2)).bind fun t9 => .ok (decide (t9 = 1))) else .ok false))
      (letR (.ok (List.reverse s1.1)) fun parts3 =>
      .nx (parts3))
      (.nx (s1.1))) fun (s3 : (List Tr)) =>
    letR (((Tr.word tree_here)).bind fun t11 => .ok (Tr.node t11 s3)) fun v => .rt v)) .st

def f_law_is_normal : Nat → Tr → R Bool
  | 0, _ => .st
  | k + 1, tree_here => Fl.run (
    cnd (if (Tr.isLeaf tree_here) then (((Tr.isBool tree_here)).bind fun t => .ok (!t)) else .ok false)
      (letR (.ok true) fun v => .rt v)
      (cnd (if (!(!Tr.isLeaf tree_here)) then .ok true else (((((Tr.len tree_here)).bind fun t1 => .ok (!decide (t1 = 2)))).bind fun t6 => (if t6 then .ok true else (((((Tr.word tree_here)).bind fun t2 => .ok (!memB t2 [true, false]))).bind fun t5 => (if t5 then .ok true else (((((Tr.parts tree_here)).bind fun t3 => .ok true)).bind fun t4 => .ok (!t4)))))))
      (letR (.ok false) fun v => .rt v)
      (cnd (((((((Tr.parts tree_here)).bind fun t7 => .ok ((t7).length : Int))).bind fun t11 => ((((((((Tr.word tree_here)).bind fun t8 => .ok (!t8))).bind fun t9 => .ok (if t9 then (1 : Int) else 0))).bind fun t10 => .ok (2 + t10))).bind fun t12 => .ok (decide (t11 < t12)))).bind fun t17 => (if t17 then .ok true else (((((((Tr.parts tree_here)).bind fun t13 => .ok t13)).bind fun t15 => (compR (fun part => (((f_law_is_normal k part)).bind fun t14 => .ok (!t14))) (fun part => (.ok part)) t15))).bind fun t16 => (neNil eTr t16))))
      (letR (.ok false) fun v => .rt v)
      (letR (((((Tr.parts tree_here)).bind fun t18 => .ok t18)).bind fun t20 => (mapR (fun part1 => (((f_law_things k part1)).bind fun t19 => (minI t19))) t20)) fun leasts =>
    cnd (((Tr.word tree_here)).bind fun t21 => .ok t21)
      (letR (.ok (decide (leasts = (isort leasts)))) fun v => .rt v)
      (letR (((atL leasts 0)).bind fun t22 => ((atL leasts (-1))).bind fun t23 => .ok (decide (t22 < t23))) fun v => .rt v))))) .st

def f_law_is_tree : Nat → Tr → Int → R Bool
  | 0, _, _ => .st
  | k + 1, tree_here, n => Fl.run (
    letR (((f_law_is_normal k tree_here)).bind fun t4 => (if t4 then (((((f_law_things k tree_here)).bind fun t => .ok (isort t))).bind fun t2 => ((((rng 0 n)).bind fun t1 => .ok t1)).bind fun t3 => .ok (decide (t2 = t3))) else .ok false)) fun v => .rt v) .st

def f_need_tree : Nat → Tr → R Unit
  | 0, _ => .st
  | k + 1, tree => Fl.run (
    cnd (((f_has_form k tree)).bind fun t => .ok (!t))
      (.ex "InvalidTree")
      (letR (((((f_listed k tree)).bind fun t1 => .ok ((t1).length : Int))).bind fun t2 => (f_check_tree k t2 tree)) fun _ =>
    .nx ())) (.ok ())

def f_factorial : Nat → Int → R Int
  | 0, _ => .st
  | k + 1, k_ => Fl.run (
    letR (.ok 1) fun product =>
    Fl.seq (letR (rng 2 (k_ + 1)) fun l => forL l (product) fun number (s1 : Int) =>
      letR (.ok number) fun t => letR (tmul s1 t) fun product1 =>
      .nx (product1)) fun (s1 : Int) =>
    letR (.ok s1) fun v => .rt v) .st

def f_sequences : Nat → Tr → R Int
  | 0, _ => .st
  | k + 1, tree => Fl.run (
    cnd (((Tr.word tree)).bind fun t => .ok t)
      (letR (((((Tr.parts tree)).bind fun t1 => .ok ((t1).length : Int))).bind fun t2 => (f_factorial k t2)) fun v => .rt v)
      (letR (.ok 2) fun v => .rt v)) .st

def f_counted : Nat → Tr → R Int
  | 0, _ => .st
  | k + 1, tree => Fl.run (
    cnd (f_is_thing k tree)
      (letR (.ok 1) fun v => .rt v)
      (letR (f_sequences k tree) fun product =>
    Fl.seq (letR (((Tr.parts tree)).bind fun t => .ok t) fun l => forL l (product) fun part (s1 : Int) =>
      letR (f_counted k part) fun t1 => letR (tmul s1 t1) fun product1 =>
      .nx (product1)) fun (s1 : Int) =>
    letR (.ok s1) fun v => .rt v)) .st

def f_count : Nat → Tr → R Int
  | 0, _ => .st
  | k + 1, tree => Fl.run (
    letR (f_need_tree k tree) fun _ =>
    letR (f_counted k tree) fun v => .rt v) .st

def f_law_is_integer : Nat → Int → R Bool
  | 0, _ => .st
  | k + 1, actual => Fl.run (
    letR (.ok (true && (!false))) fun v => .rt v) .st

def f_law_told : Nat → Tr → (List Int) → R Bool
  | 0, _, _ => .st
  | k + 1, tree_here, order_here => Fl.run (
    cnd (.ok (Tr.isLeaf tree_here))
      (letR (((((Tr.thing tree_here)).bind fun t => .ok [t])).bind fun t1 => .ok (decide (order_here = t1))) fun v => .rt v)
      (letR (.ok order_here) fun rest =>
    letR (.ok ([] : (List Int))) fun sequence =>
    Fl.seq (letR (((((Tr.parts tree_here)).bind fun t2 => .ok ((t2).length : Int))).bind fun t3 => (rng 0 t3)) fun l1 => forL l1 (rest, sequence) fun step (s1 : (List Int) × (List Int)) =>
      Fl.seq (letR (((((Tr.parts tree_here)).bind fun t4 => .ok ((t4).length : Int))).bind fun t5 => (rng 0 t5)) fun l => forL l (s1.1, s1.2) fun k_ (s3 : (List Int) × (List Int)) =>
        letR (((((((Tr.parts tree_here)).bind fun t6 => (atL t6 k_))).bind fun t7 => (f_law_things k t7))).bind fun t8 => .ok ((t8).length : Int)) fun size =>
        cnd (if (!memB k_ s3.2) then (((((((((Tr.parts tree_here)).bind fun t9 => (atL t9 k_))).bind fun t10 => (f_law_things k t10))).bind fun t11 => .ok (isort t11))).bind fun t12 => .ok (decide ((isort (cutL s3.1 none (some size))) = t12))) else .ok false)
          (cnd (((((((Tr.parts tree_here)).bind fun t13 => (atL t13 k_))).bind fun t14 => (f_law_told k t14 (cutL s3.1 none (some size))))).bind fun t15 => .ok (!t15))
            (letR (.ok false) fun v => .rt v)
            (letR (.ok k_) fun t16 => appL s3.2 t16 fun sequence1 =>
          letR (.ok (cutL s3.1 (some size) none)) fun rest1 =>
          .bk (rest1, sequence1)))
          (.nx (s3.1, s3.2))) fun (s3 : (List Int) × (List Int)) =>
      .nx (s3.1, s3.2)) fun (s1 : (List Int) × (List Int)) =>
    cnd (((((((Tr.parts tree_here)).bind fun t17 => .ok ((t17).length : Int))).bind fun t18 => .ok (decide (((s1.2).length : Int) < t18)))).bind fun t19 => .ok (t19 || (decide (0 < ((s1.1).length : Int)))))
      (letR (.ok false) fun v => .rt v)
      (letR (((((Tr.word tree_here)).bind fun t20 => .ok t20)).bind fun t21 => .ok (t21 || ((decide (s1.2 = (isort s1.2))) || (decide (s1.2 = (List.reverse (isort s1.2))))))) fun v => .rt v))) .st

def f_law_drawn_order : Nat → Tr → Int → R (List Int)
  | 0, _, _ => .st
  | k + 1, tree_here, cell_here => Fl.run (
    cnd (.ok (Tr.isLeaf tree_here))
      (letR (((Tr.thing tree_here)).bind fun t => .ok [t]) fun v => .rt v)
      (letR (.ok ([] : (List Int))) fun order_here =>
    Fl.seq (letR (((((f_law_shuffled k tree_here cell_here)).bind fun t1 => (Tr.parts t1))).bind fun t2 => .ok t2) fun l => forL l (order_here) fun part (s1 : (List Int)) =>
      letR (((((((tdiv cell_here 3)).bind fun t3 => .ok (t3 + 11))).bind fun t4 => (f_law_drawn_order k part t4))).bind fun t5 => (catL s1 t5)) fun order_here1 =>
      .nx (order_here1)) fun (s1 : (List Int)) =>
    letR (.ok s1) fun v => .rt v)) .st

def f_make_row : Nat → (List Tr) → R Tr
  | 0, _ => .st
  | k + 1, parts => Fl.run (
    cnd (.ok (decide (((parts).length : Int) < 3)))
      (letR (f_make_any k parts) fun v => .rt v)
      (letR (.ok (Tr.node false parts)) fun v => .rt v)) .st

def f_share : Nat → Tr → (List Int) → R Str
  | 0, _, _ => .st
  | k + 1, tree, chosen => Fl.run (
    letR (f_listed k tree) fun things =>
    letR (.ok ((((things).filter fun thing => (memB thing chosen))).length : Int)) fun count =>
    cnd (.ok (decide (count = 0)))
      (letR (.ok ("none" : Str)) fun v => .rt v)
      (cnd (.ok (decide (count = ((things).length : Int))))
      (letR (.ok ("all" : Str)) fun v => .rt v)
      (letR (.ok ("some" : Str)) fun v => .rt v))) .st

def f_with_share : Nat → (List Tr) → (List Int) → Str → R (List Tr)
  | 0, _, _, _ => .st
  | k + 1, parts, chosen, wanted => Fl.run (
    letR (compR (fun part => (((f_share k part chosen)).bind fun t => .ok (decide (t = wanted)))) (fun part => (.ok part)) parts) fun v => .rt v) .st

def f_ascends : Nat → (List Str) → R Bool
  | 0, _ => .st
  | k + 1, shares => Fl.run (
    letR (mapR (fun told => (tixR [("none" : Str), ("some" : Str), ("all" : Str)] told)) shares) fun ranks =>
    letR (.ok ((decide (ranks = (isort ranks))) && (decide (((ranks).count 1 : Int) < 2)))) fun v => .rt v) .st

mutual
def f_split_row : Nat → (List Tr) → (List Int) → R (Option (List Tr))
  | 0, _, _ => .st
  | k + 1, parts, chosen => Fl.run (
    letR (.ok parts) fun told =>
    Fl.seq (cnd (((((mapR (fun part => (f_share k part chosen)) told)).bind fun t => (f_ascends k t))).bind fun t1 => .ok (!t1))
      (.nx ((List.reverse told)))
      (.nx (told))) fun (s : (List Tr)) =>
    cnd (((((mapR (fun part1 => (f_share k part1 chosen)) s)).bind fun t2 => (f_ascends k t2))).bind fun t3 => .ok (!t3))
      (letR (.ok none) fun v => .rt v)
      (letR (.ok ([] : (List Tr))) fun found =>
    Fl.seq (letR (.ok s) fun l => forL l (found) fun part2 (s2 : (List Tr)) =>
      Fl.seq (cnd (((f_share k part2 chosen)).bind fun t4 => .ok (decide (t4 = ("some" : Str))))
        (letR (f_split k part2 chosen) fun inner =>
        cnd (.ok (Option.isNone inner))
          (letR (.ok none) fun v => .rt v)
          (letR (optG inner) fun t5 => extL s2 t5 fun found1 =>
        .nx (found1)))
        (letR (.ok part2) fun t6 => appL s2 t6 fun found2 =>
        .nx (found2))) fun (s3 : (List Tr)) =>
      .nx (s3)) fun (s2 : (List Tr)) =>
    letR (.ok (some s2)) fun v => .rt v)) (.ok none)

def f_split : Nat → Tr → (List Int) → R (Option (List Tr))
  | 0, _, _ => .st
  | k + 1, tree, chosen => Fl.run (
    cnd (((Tr.word tree)).bind fun t => .ok t)
      (letR (((Tr.parts tree)).bind fun t1 => (f_split_any k t1 chosen)) fun v => .rt v)
      (letR (((Tr.parts tree)).bind fun t2 => (f_split_row k t2 chosen)) fun v => .rt v)) (.ok none)

def f_split_any : Nat → (List Tr) → (List Int) → R (Option (List Tr))
  | 0, _, _ => .st
  | k + 1, parts, chosen => Fl.run (
    letR (f_with_share k parts chosen ("none" : Str)) fun empty =>
    letR (f_with_share k parts chosen ("all" : Str)) fun full =>
    letR (f_with_share k parts chosen ("some" : Str)) fun mixed =>
    cnd (.ok (decide (1 < ((mixed).length : Int))))
      (letR (.ok none) fun v => .rt v)
      (letR (.ok ([] : (List Tr))) fun found =>
    Fl.seq (cnd (neNil eTr empty)
      (letR (f_make_any k empty) fun t => appL found t fun found1 =>
      .nx (found1))
      (.nx (found))) fun (s : (List Tr)) =>
    Fl.seq (cnd (neNil eTr mixed)
      (letR (((atL mixed 0)).bind fun t1 => (f_split k t1 chosen)) fun inner =>
      cnd (.ok (Option.isNone inner))
        (letR (.ok none) fun v => .rt v)
        (letR (optG inner) fun t2 => extL s t2 fun found2 =>
      .nx (found2)))
      (.nx (s))) fun (s1 : (List Tr)) =>
    Fl.seq (cnd (neNil eTr full)
      (letR (f_make_any k full) fun t3 => appL s1 t3 fun found3 =>
      .nx (found3))
      (.nx (s1))) fun (s2 : (List Tr)) =>
    letR (.ok (some s2)) fun v => .rt v)) (.ok none)

end
def f_joined_any : Nat → (List Tr) → (List Int) → R (Option Tr)
  | 0, _, _ => .st
  | k + 1, parts, chosen => Fl.run (
    letR (f_with_share k parts chosen ("none" : Str)) fun empty =>
    letR (f_with_share k parts chosen ("all" : Str)) fun full =>
    letR (f_with_share k parts chosen ("some" : Str)) fun mixed =>
    cnd (.ok (decide (2 < ((mixed).length : Int))))
      (letR (.ok none) fun v => .rt v)
      (letR (mapR (fun part => (f_split k part chosen)) mixed) fun lists =>
    cnd (noneIn (eL eTr) lists)
      (letR (.ok none) fun v => .rt v)
      (cnd (eqNil (eO (eL eTr)) lists)
      (letR ((((((((f_make_any k full)).bind fun t => .ok [t])).bind fun t1 => (catL empty t1))).bind fun t2 => (f_make_any k t2)).bind fun a => .ok (some a)) fun v => .rt v)
      (letR ((((atL lists 0).bind optG)).bind fun t3 => .ok t3) fun middle =>
    Fl.seq (cnd (neNil eTr full)
      (letR (f_make_any k full) fun t4 => appL middle t4 fun middle1 =>
      .nx (middle1))
      (.nx (middle))) fun (s : (List Tr)) =>
    Fl.seq (cnd (.ok (decide (((lists).length : Int) = 2)))
      (letR ((((atL lists 1).bind optG)).bind fun t5 => .ok (List.reverse t5)) fun t6 => extL s t6 fun middle2 =>
      .nx (middle2))
      (.nx (s))) fun (s1 : (List Tr)) =>
    letR ((((((((f_make_row k s1)).bind fun t7 => .ok [t7])).bind fun t8 => (catL empty t8))).bind fun t9 => (f_make_any k t9)).bind fun a => .ok (some a)) fun v => .rt v)))) (.ok none)

def f_joined_row : Nat → (List Tr) → (List Int) → R (Option Tr)
  | 0, _, _ => .st
  | k + 1, parts, chosen => Fl.run (
    letR (mapR (fun part => (f_share k part chosen)) parts) fun shares =>
    letR (((rng 0 ((parts).length : Int))).bind fun t1 => (compR (fun index => (((atL shares index)).bind fun t => .ok (!decide (t = ("none" : Str))))) (fun index => (.ok index)) t1)) fun touched =>
    letR (atL touched 0) fun first =>
    letR (atL touched (-1)) fun last =>
    cnd (((((rng (first + 1) last)).bind fun t3 => (compR (fun index1 => (((atL shares index1)).bind fun t2 => .ok (!decide (t2 = ("all" : Str))))) (fun index1 => (.ok index1)) t3))).bind fun t4 => .ok (!decide (t4 = ([] : (List Int)))))
      (letR (.ok none) fun v => .rt v)
      (letR (.ok (cutL parts none (some first))) fun found =>
    Fl.seq (letR (rng first (last + 1)) fun l => forL l (found) fun index2 (s1 : (List Tr)) =>
      letR (((atL parts index2)).bind fun t5 => .ok [t5]) fun inner =>
      Fl.seq (cnd (((atL shares index2)).bind fun t6 => .ok (decide (t6 = ("some" : Str))))
        (letR (((atL parts index2)).bind fun t7 => (f_split k t7 chosen)) fun inner1 =>
        cnd (.ok (Option.isNone inner1))
          (letR (.ok none) fun v => .rt v)
          (Fl.seq (cnd (.ok (decide (index2 = last)))
          (letR ((((optG inner1)).bind fun t8 => .ok (List.reverse t8)).bind fun a => .ok (some a)) fun inner2 =>
          .nx (inner2))
          (.nx (inner1))) fun (s3 : (Option (List Tr))) =>
        .nx (s3)))
        (.nx ((some inner)))) fun (s2 : (Option (List Tr))) =>
      letR (optG s2) fun t9 => extL s1 t9 fun found1 =>
      .nx (found1)) fun (s1 : (List Tr)) =>
    letR (.ok (cutL parts (some (last + 1)) none)) fun t10 => extL s1 t10 fun found2 =>
    letR ((f_make_row k found2).bind fun a => .ok (some a)) fun v => .rt v)) (.ok none)

def f_joined : Nat → Tr → (List Int) → R (Option Tr)
  | 0, _, _ => .st
  | k + 1, tree, chosen => Fl.run (
    cnd (((f_is_thing k tree)).bind fun t1 => (if t1 then .ok true else (((f_share k tree chosen)).bind fun t => .ok (decide (t = ("all" : Str))))))
      (letR (.ok (some tree)) fun v => .rt v)
      (letR (Tr.node_ tree) fun p =>
    letR (((rng 0 (((p).2).length : Int))).bind fun t4 => (compR (fun index => (((((atL (p).2 index)).bind fun t2 => (f_share k t2 chosen))).bind fun t3 => .ok (!decide (t3 = ("none" : Str))))) (fun index => (.ok index)) t4)) fun touched =>
    cnd (.ok (decide (((touched).length : Int) = 1)))
      (letR (((((atL touched 0)).bind fun t5 => (atL (p).2 t5))).bind fun t6 => (f_joined k t6 chosen)) fun inner =>
      cnd (.ok (Option.isNone inner))
        (letR (.ok none) fun v => .rt v)
        (letR ((((((((((((atL touched 0)).bind fun t7 => .ok (some t7))).bind fun t8 => .ok (cutL (p).2 none t8))).bind fun t10 => ((((optG inner)).bind fun t9 => .ok [t9])).bind fun t11 => (catL t10 t11))).bind fun t15 => ((((((((atL touched 0)).bind fun t12 => .ok (t12 + 1))).bind fun t13 => .ok (some t13))).bind fun t14 => .ok (cutL (p).2 t14 none))).bind fun t16 => (catL t15 t16))).bind fun t17 => .ok (Tr.node (p).1 t17)).bind fun a => .ok (some a)) fun v => .rt v))
      (cnd (.ok (p).1)
      (letR (f_joined_any k (p).2 chosen) fun v => .rt v)
      (letR (f_joined_row k (p).2 chosen) fun v => .rt v)))) (.ok none)

def f_reduced_by : Nat → Tr → (List Int) → R (Option Tr)
  | 0, _, _ => .st
  | k + 1, tree, chosen => Fl.run (
    cnd (.ok (decide (((chosen).length : Int) < 2)))
      (letR ((f_normalized k tree).bind fun a => .ok (some a)) fun v => .rt v)
      (letR (f_joined k tree chosen) fun found =>
    cnd (.ok (Option.isNone found))
      (letR (.ok none) fun v => .rt v)
      (letR ((((optG found)).bind fun t => (f_normalized k t)).bind fun a => .ok (some a)) fun v => .rt v))) (.ok none)

def f_reduced_by_all : Nat → (Option Tr) → (List (List Int)) → R (Option Tr)
  | 0, _, _ => .st
  | k + 1, tree, sets => Fl.run (
    Fl.seq (letR (.ok sets) fun l => forL l (tree) fun chosen (s1 : (Option Tr)) =>
      letR (((optG s1)).bind fun t => (f_reduced_by k t chosen)) fun tree1 =>
      cnd (.ok (Option.isNone tree1))
        (letR (.ok none) fun v => .rt v)
        (.nx (tree1))) fun (s1 : (Option Tr)) =>
    letR (.ok s1) fun v => .rt v) (.ok none)

def f_tree_of : Nat → Int → (List (List Int)) → R (Option Tr)
  | 0, _, _ => .st
  | k + 1, n, sets => Fl.run (
    letR (f_check_table k n sets) fun _ =>
    letR ((((f_plain_tree k n).bind fun a => .ok (some a))).bind fun t => (f_reduced_by_all k t sets)) fun v => .rt v) (.ok none)

def f_law_fits : Nat → (List Int) → (List (List Int)) → R Bool
  | 0, _, _ => .st
  | k + 1, order_here, sets_here => Fl.run (
    letR (((compR (fun chosen => (((f_law_together k order_here chosen)).bind fun t => .ok (!t))) (fun chosen => (.ok chosen)) sets_here)).bind fun t1 => .ok (decide (t1 = ([] : (List (List Int)))))) fun v => .rt v) .st

def f_reduced : Nat → Tr → (List Int) → R (Option Tr)
  | 0, _, _ => .st
  | k + 1, tree, chosen => Fl.run (
    letR (f_need_tree k tree) fun _ =>
    letR (((((f_listed k tree)).bind fun t => .ok ((t).length : Int))).bind fun t1 => (f_check_set k t1 chosen)) fun _ =>
    letR (f_reduced_by k tree chosen) fun v => .rt v) (.ok none)

def f_law_orders : Nat → Int → R (List (List Int))
  | 0, _ => .st
  | k + 1, n => Fl.run (
    letR (.ok [([] : (List Int))]) fun orders_here =>
    Fl.seq (letR (rng 0 n) fun l2 => forL l2 (orders_here) fun thing (s2 : (List (List Int))) =>
      letR (.ok ([] : (List (List Int)))) fun longer =>
      Fl.seq (letR (.ok s2) fun l1 => forL l1 (longer) fun order_here (s4 : (List (List Int))) =>
        Fl.seq (letR (rng 0 (((order_here).length : Int) + 1)) fun l => forL l (s4) fun at_ (s6 : (List (List Int))) =>
          letR (((catL (cutL order_here none (some at_)) [thing])).bind fun t => (catL t (cutL order_here (some at_) none))) fun t1 => appL s6 t1 fun longer1 =>
          .nx (longer1)) fun (s6 : (List (List Int))) =>
        .nx (s6)) fun (s4 : (List (List Int))) =>
      letR (.ok s4) fun orders_here1 =>
      .nx (orders_here1)) fun (s2 : (List (List Int))) =>
    letR (.ok s2) fun v => .rt v) .st

def f_law_agrees : Nat → Tr → (List Int) → (Option Tr) → (List Int) → R Bool
  | 0, _, _, _, _ => .st
  | k + 1, tree_here, chosen, told_here, order_here => Fl.run (
    letR (((f_law_told k tree_here order_here)).bind fun t => (if t then (f_law_together k order_here chosen) else .ok false)) fun due =>
    letR (((if (Option.isSome told_here) then (((optG told_here)).bind fun t1 => (f_law_told k t1 order_here)) else .ok false)).bind fun t2 => .ok (decide (due = t2))) fun v => .rt v) .st

def f_law_agrees_1 : Nat → (List (List Int)) → (Option Tr) → (List Int) → R Bool
  | 0, _, _, _ => .st
  | k + 1, sets, told_here, order_here => Fl.run (
    letR (((f_law_fits k order_here sets)).bind fun t1 => ((if (Option.isSome told_here) then (((optG told_here)).bind fun t => (f_law_told k t order_here)) else .ok false)).bind fun t2 => .ok (decide (t1 = t2))) fun v => .rt v) .st

def f_check_different : Nat → Tr → (List Int) → R Unit
  | 0, _, _ => .st
  | k + 1, tree, things => Fl.run (
    letR (f_need_tree k tree) fun _ =>
    letR (((f_listed k tree)).bind fun t => .ok ((t).length : Int)) fun n =>
    cnd (((((lenSetR things)).bind fun t1 => .ok (decide (t1 < ((things).length : Int))))).bind fun t2 => .ok (t2 || (!((((things).map fun thing => (decide (0 ≤ thing) && (decide (thing < n))))).all id))))
      (.ex "OutOfRange")
      (.nx ())) (.ok ())

def f_can_neighbor : Nat → Tr → Int → Int → R Bool
  | 0, _, _, _ => .st
  | k + 1, tree, a, b => Fl.run (
    letR (f_check_different k tree [a, b]) fun _ =>
    letR (((f_reduced_by k tree [(if b < a then b else a), (if b > a then b else a)])).bind fun t => .ok (Option.isSome t)) fun v => .rt v) .st

def f_index_with : Nat → (List Tr) → Int → R Int
  | 0, _, _ => .st
  | k + 1, parts, thing => Fl.run (
    letR (((((rng 0 ((parts).length : Int))).bind fun t2 => (compR (fun index => (((((atL parts index)).bind fun t => (f_listed k t))).bind fun t1 => .ok (memB thing t1))) (fun index => (.ok index)) t2))).bind fun t3 => (minI t3)) fun v => .rt v) .st

def f_may_begin : Nat → Tr → Int → R Bool
  | 0, _, _ => .st
  | k + 1, tree, a => Fl.run (
    cnd (f_is_thing k tree)
      (letR (.ok true) fun v => .rt v)
      (letR (Tr.parts tree) fun parts =>
    letR (f_index_with k parts a) fun index =>
    cnd (((((Tr.word tree)).bind fun t => .ok (!t))).bind fun t1 => .ok (t1 && (decide (0 < index) && (decide (index < (((parts).length : Int) - 1))))))
      (letR (.ok false) fun v => .rt v)
      (letR (((atL parts index)).bind fun t2 => (f_may_begin k t2 a)) fun v => .rt v))) .st

def f_can_be_first : Nat → Tr → Int → R Bool
  | 0, _, _ => .st
  | k + 1, tree, a => Fl.run (
    letR (f_check_different k tree [a]) fun _ =>
    letR (f_may_begin k tree a) fun v => .rt v) .st

def f_may_be_between : Nat → Tr → Int → Int → Int → R Bool
  | 0, _, _, _, _ => .st
  | k + 1, tree, a, b, c => Fl.run (
    letR (Tr.parts tree) fun parts =>
    letR (f_index_with k parts a) fun i =>
    letR (f_index_with k parts b) fun j_ =>
    letR (f_index_with k parts c) fun k_ =>
    cnd (.ok (decide (i = j_) && (decide (j_ = k_))))
      (letR (((atL parts i)).bind fun t => (f_may_be_between k t a b c)) fun v => .rt v)
      (cnd (.ok (decide (i = k_)))
      (letR (.ok false) fun v => .rt v)
      (cnd (if (decide (j_ = i)) then .ok true else (if (decide (j_ = k_)) then .ok true else (((Tr.word tree)).bind fun t1 => .ok t1)))
      (letR (.ok true) fun v => .rt v)
      (letR (.ok (decide ((if k_ < i then k_ else i) < j_) && (decide (j_ < (if k_ > i then k_ else i))))) fun v => .rt v)))) .st

def f_can_be_between : Nat → Tr → Int → Int → Int → R Bool
  | 0, _, _, _, _ => .st
  | k + 1, tree, a, b, c => Fl.run (
    letR (f_check_different k tree [a, b, c]) fun _ =>
    letR (f_may_be_between k tree a b c) fun v => .rt v) .st

def f_is_always_between : Nat → Tr → Int → Int → Int → R Bool
  | 0, _, _, _, _ => .st
  | k + 1, tree, a, b, c => Fl.run (
    letR (f_check_different k tree [a, b, c]) fun _ =>
    letR (((((f_may_be_between k tree b a c)).bind fun t => .ok (!t))).bind fun t2 => (if t2 then (((f_may_be_between k tree a c b)).bind fun t1 => .ok (!t1)) else .ok false)) fun v => .rt v) .st

def f_is_always_together : Nat → Tr → (List Int) → R Bool
  | 0, _, _ => .st
  | k + 1, tree, chosen => Fl.run (
    letR (((f_reduced k tree chosen)).bind fun t => (((f_normalized k tree).bind fun a => .ok (some a))).bind fun t1 => (eqOTrB t t1)) fun v => .rt v) .st

def f_count_together : Nat → Tr → (List Int) → R Int
  | 0, _, _ => .st
  | k + 1, tree, chosen => Fl.run (
    letR (f_need_tree k tree) fun _ =>
    letR (((((f_listed k tree)).bind fun t => .ok ((t).length : Int))).bind fun t1 => (f_check_set k t1 chosen)) fun _ =>
    letR (f_reduced_by k tree chosen) fun found =>
    cnd (.ok (Option.isNone found))
      (letR (.ok 0) fun v => .rt v)
      (letR (((optG found)).bind fun t2 => (f_counted k t2)) fun v => .rt v)) .st

def f_count_neighbors : Nat → Tr → Int → Int → R Int
  | 0, _, _, _ => .st
  | k + 1, tree, a, b => Fl.run (
    letR (f_check_different k tree [a, b]) fun _ =>
    letR (f_count_together k tree [(if b < a then b else a), (if b > a then b else a)]) fun v => .rt v) .st

def f_count_first : Nat → Tr → Int → R Int
  | 0, _, _ => .st
  | k + 1, tree, a => Fl.run (
    letR (f_check_different k tree [a]) fun _ =>
    letR (f_counted k tree) fun number =>
    Fl.seq (whlL (fun (s1 : Tr × Int) => (((f_is_thing k s1.1)).bind fun t => .ok (!t))) (fun (s1 : Tr × Int) =>
      letR (Tr.parts s1.1) fun parts =>
      letR (f_index_with k parts a) fun index =>
      Fl.seq (cnd (((Tr.word s1.1)).bind fun t1 => .ok t1)
        (letR (.ok ((parts).length : Int)) fun t2 => letR (tdiv s1.2 t2) fun number1 =>
        .nx (number1))
        (cnd (.ok ((decide (index = 0)) || (decide (index = (((parts).length : Int) - 1)))))
          (letR (.ok 2) fun t3 => letR (tdiv s1.2 t3) fun number2 =>
          .nx (number2))
          (letR (.ok 0) fun v => .rt v))) fun (s2 : Int) =>
      letR (atL parts index) fun tree1 =>
      .nx (tree1, s2)) 1000 (tree, number)) fun (s1 : Tr × Int) =>
    letR (.ok s1.2) fun v => .rt v) .st

def f_pruned_within : Nat → Tr → (List Int) → R (List Tr)
  | 0, _, _ => .st
  | k + 1, tree, things => Fl.run (
    cnd (f_is_thing k tree)
      (letR (compR (fun thing => (((Tr.thing thing)).bind fun t => .ok (memB t things))) (fun thing => (.ok thing)) [tree]) fun v => .rt v)
      (letR (.ok ([] : (List Tr))) fun parts =>
    Fl.seq (letR (((Tr.parts tree)).bind fun t1 => .ok t1) fun l => forL l (parts) fun part (s1 : (List Tr)) =>
      letR (f_pruned_within k part things) fun t2 => extL s1 t2 fun parts1 =>
      .nx (parts1)) fun (s1 : (List Tr)) =>
    cnd (eqNil eTr s1)
      (letR (.ok ([] : (List Tr))) fun v => .rt v)
      (cnd (((Tr.word tree)).bind fun t3 => .ok t3)
      (letR (((f_make_any k s1)).bind fun t4 => .ok [t4]) fun v => .rt v)
      (letR (((f_make_row k s1)).bind fun t5 => .ok [t5]) fun v => .rt v)))) .st

def f_pruned : Nat → Tr → (List Int) → R Tr
  | 0, _, _ => .st
  | k + 1, tree, things => Fl.run (
    letR (f_need_tree k tree) fun _ =>
    letR (((((f_listed k tree)).bind fun t => .ok ((t).length : Int))).bind fun t1 => (f_check_set k t1 things)) fun _ =>
    cnd (.ok (decide (((things).length : Int) = 0)))
      (.ex "OutOfRange")
      (letR (((((f_pruned_within k tree things)).bind fun t2 => (atL t2 0))).bind fun t3 => (f_normalized k t3)) fun v => .rt v)) .st

def f_choices_of : Nat → (List Int) → Int → R (List (List Int))
  | 0, _, _ => .st
  | k + 1, indexes, size => Fl.run (
    cnd (.ok (decide (size = 0)))
      (letR (.ok [([] : (List Int))]) fun v => .rt v)
      (letR (.ok ([] : (List (List Int)))) fun found =>
    Fl.seq (letR (rng 0 ((indexes).length : Int)) fun l1 => forL l1 (found) fun at_ (s1 : (List (List Int))) =>
      Fl.seq (letR (((f_choices_of k (cutL indexes (some (at_ + 1)) none) (size - 1))).bind fun t => .ok t) fun l => forL l (s1) fun rest (s3 : (List (List Int))) =>
        letR (((((atL indexes at_)).bind fun t1 => .ok [t1])).bind fun t2 => (catL t2 rest)) fun t3 => appL s3 t3 fun found1 =>
        .nx (found1)) fun (s3 : (List (List Int))) =>
      .nx (s3)) fun (s1 : (List (List Int))) =>
    letR (.ok s1) fun v => .rt v)) .st

def f_greatest_choice : Nat → Int → (List (List Int)) → R (List Int)
  | 0, _, _ => .st
  | k + 1, n, sets => Fl.run (
    letR (f_check_table k n sets) fun _ =>
    cnd (.ok (decide (8 < ((sets).length : Int))))
      (.ex "OutOfRange")
      (letR (rng 0 ((sets).length : Int)) fun indexes =>
    Fl.seq (letR (rng3 ((sets).length : Int) (-1)) fun l1 => forL l1 (indexes) fun size (s2 : (List Int)) =>
      Fl.seq (letR (((f_choices_of k s2 size)).bind fun t => .ok t) fun l => forL l () fun choice (s4 : Unit) =>
        cnd ((((((f_plain_tree k n).bind fun a => .ok (some a))).bind fun t1 => ((mapR (fun index => (atL sets index)) choice)).bind fun t2 => (f_reduced_by_all k t1 t2))).bind fun t3 => .ok (Option.isSome t3))
          (letR (.ok choice) fun v => .rt v)
          (.nx ())) fun (s4 : Unit) =>
      .nx (s2)) fun (s2 : (List Int)) =>
    letR (.ok ([] : (List Int))) fun v => .rt v)) .st

end PC

set_option Elab.async false
set_option linter.all false
set_option maxRecDepth 100000
/-! ML1: loops, lists, trees: the plain side. -/
namespace PC
open PySem
@[simp] theorem bnd_ok {α β : Type} {a : α} {f : α → R β} : (R.ok a).bind f = f a := rfl
section
variable {α β σ ρ : Type} {f : α → σ → Fl σ ρ}
theorem forL_inv (P : Nat → σ → Prop) : ∀ {l : List α} {s0 : σ}, P 0 s0 → (∀ i (h : i < l.length) s, P i s → ∃ s', f l[i] s = .nx s' ∧ P (i + 1) s') → ∃ s', forL l s0 f = .nx s' ∧ P l.length s' := by
  intro l
  induction l generalizing P with
  | nil => intro s0 h0 _; exact ⟨s0, rfl, h0⟩
  | cons a l ih =>
    intro s0 h0 hs
    obtain ⟨s1, e1, h1⟩ := hs 0 (by simp) s0 h0
    rw [forL_cons]
    simp only [List.getElem_cons_zero] at e1
    rw [e1]
    obtain ⟨s', e2, h2⟩ := ih (fun i => P (i + 1)) h1 (fun i h s q => by
      have := hs (i + 1) (by simpa using h) s q
      simpa using this)
    exact ⟨s', e2, h2⟩
theorem forL_inv2 (P : Nat → σ → Prop) (Q : ρ → Prop) : ∀ {l : List α} {s0 : σ}, P 0 s0 → (∀ i (h : i < l.length) s, P i s → (∃ s', f l[i] s = .nx s' ∧ P (i + 1) s') ∨ ∃ v, f l[i] s = .rt v ∧ Q v) → (∃ s', forL l s0 f = .nx s' ∧ P l.length s') ∨ ∃ v, forL l s0 f = .rt v ∧ Q v := by
  intro l
  induction l generalizing P with
  | nil => intro s0 h0 _; exact .inl ⟨s0, rfl, h0⟩
  | cons a l ih =>
    intro s0 h0 hs
    rw [forL_cons]
    rcases hs 0 (by simp) s0 h0 with ⟨s1, e1, h1⟩ | ⟨v, e1, h1⟩
    · simp only [List.getElem_cons_zero] at e1
      rw [e1]
      exact ih (fun i => P (i + 1)) h1 (fun i h s q => by
        have := hs (i + 1) (by simpa using h) s q
        simpa using this)
    · simp only [List.getElem_cons_zero] at e1
      rw [e1]
      exact .inr ⟨v, rfl, h1⟩
theorem seq_gen {σ' : Type} {l : List α} {s0 : σ} {K : σ → Fl σ' ρ} {G : Fl σ' ρ → Prop} (P : Nat → σ → Prop) (h0 : P 0 s0)
    (hs : ∀ i (h : i < l.length) s, P i s → (∃ s', f l[i] s = .nx s' ∧ P (i + 1) s') ∨ (∃ s', f l[i] s = .bk s' ∧ G (K s')) ∨ (∃ v, f l[i] s = .rt v ∧ G (.rt v)) ∨ ∃ c, f l[i] s = .ex c ∧ G (.ex c)) (hK : ∀ s, P l.length s → G (K s)) : G (Fl.seq (forL l s0 f) K) := by
  induction l generalizing P s0 with
  | nil => exact hK s0 h0
  | cons a l ih =>
    rw [forL_cons]
    rcases hs 0 (by simp) s0 h0 with ⟨s1, e1, h1⟩ | ⟨s1, e1, h1⟩ | ⟨v, e1, h1⟩ | ⟨c, e1, h1⟩
    · simp only [List.getElem_cons_zero] at e1
      rw [e1]
      exact ih (fun i => P (i + 1)) h1 (fun i h s q => by
        have := hs (i + 1) (by simpa using h) s q
        simpa using this) hK
    · simp only [List.getElem_cons_zero] at e1
      rw [e1]; exact h1
    · simp only [List.getElem_cons_zero] at e1
      rw [e1]; exact h1
    · simp only [List.getElem_cons_zero] at e1
      rw [e1]; exact h1
theorem seq_inv {σ' : Type} {l : List α} {s0 : σ} {K : σ → Fl σ' ρ} {G : Fl σ' ρ → Prop} (P : Nat → σ → Prop) (h0 : P 0 s0)
    (hs : ∀ i (h : i < l.length) s, P i s → ∃ s', f l[i] s = .nx s' ∧ P (i + 1) s') (hK : ∀ s, P l.length s → G (K s)) : G (Fl.seq (forL l s0 f) K) :=
  seq_gen P h0 (fun i h s q => .inl (hs i h s q)) hK
theorem seq_brk {σ' : Type} {l : List α} {s0 : σ} {K : σ → Fl σ' ρ} {G : Fl σ' ρ → Prop} (P : Nat → σ → Prop) (B : σ → Prop) (h0 : P 0 s0)
    (hs : ∀ i (h : i < l.length) s, P i s → (∃ s', f l[i] s = .nx s' ∧ P (i + 1) s') ∨ ∃ s', f l[i] s = .bk s' ∧ B s') (hK : ∀ s, P l.length s ∨ B s → G (K s)) : G (Fl.seq (forL l s0 f) K) :=
  seq_gen P h0 (fun i h s q => by
    rcases hs i h s q with h | ⟨s', h1, h2⟩
    · exact .inl h
    · exact .inr (.inl ⟨s', h1, hK s' (.inr h2)⟩)) fun s h => hK s (.inl h)
theorem forL_fold {g : σ → α → σ} : ∀ {l : List α} {s : σ}, (∀ a ∈ l, ∀ s, f a s = .nx (g s a)) → forL l s f = .nx (l.foldl g s)
  | [], s, _ => rfl
  | a :: l, s, h => by
    rw [forL_cons, h a List.mem_cons_self]
    exact forL_fold fun b m => h b (List.mem_cons_of_mem _ m)
theorem forL_app {f : α → List β → Fl (List β) ρ} {g : α → β} : ∀ {l : List α} {acc : List β}, (∀ a ∈ l, ∀ s, f a s = appL s (g a) Fl.nx) → acc.length + l.length ≤ cap → forL l acc f = .nx (acc ++ l.map g)
  | [], acc, _, _ => by simp
  | a :: l, acc, h, hl => by
    rw [forL_cons, h a List.mem_cons_self]
    simp only [List.length_cons] at hl
    unfold appL
    rw [if_pos (by omega)]
    simp only
    rw [forL_app (fun b m => h b (List.mem_cons_of_mem _ m)) (by simp; omega)]
    simp
/-- a loop that changes nothing: it goes through, or some turn ends it -/
theorem forL_unit {f : α → Unit → Fl Unit ρ} {l : List α} (h : ∀ a ∈ l, f a () = .nx ()) : forL l () f = .nx () := by
  induction l with
  | nil => rfl
  | cons a l ih => rw [forL_cons, h a List.mem_cons_self]; exact ih fun b m => h b (List.mem_cons_of_mem _ m)
theorem mapR_ok {g : α → R β} {h : α → β} : ∀ {l : List α}, (∀ a ∈ l, g a = .ok (h a)) → mapR g l = .ok (l.map h)
  | [], _ => rfl
  | a :: l, q => by
    unfold mapR
    rw [q a List.mem_cons_self, mapR_ok fun b m => q b (List.mem_cons_of_mem _ m)]
    rfl
theorem compR_ok {p : α → R Bool} {g : α → R β} {q : α → Bool} {h : α → β} : ∀ {l : List α}, (∀ a ∈ l, p a = .ok (q a)) → (∀ a ∈ l, q a = true → g a = .ok (h a)) → compR p g l = .ok ((l.filter q).map h)
  | [], _, _ => rfl
  | a :: l, h1, h2 => by
    unfold compR
    rw [h1 a List.mem_cons_self, compR_ok (fun b m => h1 b (List.mem_cons_of_mem _ m)) (fun b m => h2 b (List.mem_cons_of_mem _ m))]
    cases e : q a with
    | true => simp only [h2 a List.mem_cons_self e, List.filter_cons, e, if_true, List.map_cons]
    | false => simp only [List.filter_cons, e, Bool.false_eq_true, if_false]
end
/-! ### numbers, places, stretches -/
theorem rng_ok {a b : Int} (h1 : -1000000 ≤ a) (h2 : a ≤ 1000000) (h3 : -1000000 ≤ b) (h4 : b ≤ 1000000) : rng a b = .ok (iota a (b - a).toNat) := by
  unfold rng; rw [if_pos (rgOk_ok h1 h2 h3 h4)]
theorem rng0 {n : Nat} (h : n ≤ 1000000) : rng 0 (n : Int) = .ok (iota 0 n) := by
  rw [rng_ok (by omega) (by omega) (by omega) (by omega)]; simp
theorem iota_get? {a : Int} {n i : Nat} : (iota a n)[i]? = if i < n then some (a + i) else none := by
  induction n generalizing a i with
  | zero => simp [iota]
  | succ n ih =>
    cases i with
    | zero => simp [iota]
    | succ i =>
      simp only [iota, List.getElem?_cons_succ, ih, Nat.add_lt_add_iff_right]
      split
      · congr 1; omega
      · rfl
theorem iota_getE {a : Int} {n i : Nat} (h : i < (iota a n).length) : (iota a n)[i] = a + i := by
  have := iota_get? (a := a) (n := n) (i := i)
  rw [iota_len] at h
  rw [if_pos h] at this
  rw [List.getElem?_eq_getElem (by rw [iota_len]; exact h)] at this
  exact Option.some.inj this
theorem iota_nodup (n : Nat) (a : Int) : (iota a n).Nodup := (iota_sorted n a).imp fun h => by omega
theorem iota_map {n : Nat} {a : Int} : iota a n = (List.range n).map fun (i : Nat) => a + (i : Int) := by
  apply List.ext_getElem?
  intro i
  rw [iota_get?]
  by_cases h : i < n
  · simp [h]
  · simp [h]
theorem atL_nat {α : Type} {l : List α} {i : Nat} {a : α} (h : l[i]? = some a) : atL l (i : Int) = .ok a := by
  have hi := (List.getElem?_eq_some_iff.mp h).1
  unfold atL L2.atI L2.ixN
  simp [hi]
  exact (List.getElem?_eq_some_iff.mp h).2
theorem atL_get {α : Type} {l : List α} {i : Nat} (h : i < l.length) : atL l (i : Int) = .ok l[i] := atL_nat (List.getElem?_eq_getElem h)
theorem atL_int {α : Type} {l : List α} {i : Int} (h0 : 0 ≤ i) (h : i.toNat < l.length) : atL l i = .ok l[i.toNat] := by
  have e : ((i.toNat : Nat) : Int) = i := by omega
  have := atL_get h
  rw [e] at this
  exact this
theorem atL_zero {α : Type} {l : List α} (h : 0 < l.length) : atL l 0 = .ok l[0] := atL_get h
theorem atL_last {α : Type} {l : List α} (h : l ≠ []) : atL l (-1) = .ok (l.getLast h) := by
  have hl : 0 < l.length := List.length_pos_iff.mpr h
  unfold atL L2.atI L2.ixN
  rw [if_neg (by omega), if_pos (by omega)]
  simp only [Option.bind_some]
  have : ((-1 : Int) + (l.length : Int)).toNat = l.length - 1 := by omega
  rw [this, ← List.getLast?_eq_getElem?, List.getLast?_eq_some_getLast h]
theorem sIx_pos {n : Nat} {d : Nat} {v : Int} (h : 0 ≤ v) : HT.sIx n d (some v) = min v.toNat n := by
  show (if v < 0 then _ else _) = _
  rw [if_neg (by omega)]
theorem cut_drop {α : Type} {l : List α} {a : Int} (h : 0 ≤ a) : cutL l (some a) none = l.drop a.toNat := by
  unfold cutL
  rw [sIx_pos h, HT.sIx_none, List.take_of_length_le (by simp)]
  by_cases c : a.toNat ≤ l.length
  · rw [Nat.min_eq_left c]
  · rw [Nat.min_eq_right (by omega), List.drop_length, List.drop_eq_nil_of_le (by omega)]
theorem cut_take {α : Type} {l : List α} {b : Int} (h : 0 ≤ b) : cutL l none (some b) = l.take b.toNat := by
  unfold cutL
  rw [sIx_pos h, HT.sIx_none, Nat.sub_zero, List.drop_zero]
  by_cases c : b.toNat ≤ l.length
  · rw [Nat.min_eq_left c]
  · rw [Nat.min_eq_right (by omega), List.take_length, List.take_of_length_le (by omega)]
theorem cut_mid {α : Type} {l : List α} {a b : Int} (h : 0 ≤ a) (h' : 0 ≤ b) : cutL l (some a) (some b) = (l.take b.toNat).drop a.toNat := by
  unfold cutL
  rw [sIx_pos h, sIx_pos h', List.drop_take]
  by_cases c : a.toNat ≤ l.length
  · rw [Nat.min_eq_left c]
    by_cases c2 : b.toNat ≤ l.length
    · rw [Nat.min_eq_left c2]
    · rw [Nat.min_eq_right (by omega), List.take_of_length_le (by simp), List.take_of_length_le (by simp; omega)]
  · have e : min a.toNat l.length = l.length := by omega
    rw [e, List.drop_length, List.drop_eq_nil_of_le (by omega)]
    simp
/-! ### sorted -/
theorem insI_perm_m (x : Int) : ∀ l : List Int, (insI x l).Perm (x :: l)
  | [] => .refl _
  | y :: r => by
    unfold insI
    split
    · exact .refl _
    · exact ((insI_perm_m x r).cons y).trans (.swap x y r)
theorem isort_perm_m : ∀ l : List Int, (isort l).Perm l
  | [] => .refl _
  | x :: r => (insI_perm_m x (isort r)).trans ((isort_perm_m r).cons x)
theorem insI_sorted_m (x : Int) : ∀ l : List Int, l.Pairwise (· ≤ ·) → (insI x l).Pairwise (· ≤ ·)
  | [], _ => by simp [insI]
  | y :: r, h => by
    unfold insI
    split
    · rename_i c
      refine .cons (fun z hz => ?_) h
      rcases List.mem_cons.mp hz with rfl | hz
      · exact c
      · exact Int.le_trans c (List.rel_of_pairwise_cons h hz)
    · rename_i c
      refine .cons (fun z hz => ?_) (insI_sorted_m x r (List.Pairwise.of_cons h))
      rcases List.mem_cons.mp ((insI_perm_m x r).mem_iff.mp hz) with rfl | hz
      · omega
      · exact List.rel_of_pairwise_cons h hz
theorem isort_sorted_m : ∀ l : List Int, (isort l).Pairwise (· ≤ ·)
  | [] => .nil
  | x :: r => insI_sorted_m x _ (isort_sorted_m r)
theorem sorted_uniq_m {l m : List Int} (h : l.Perm m) (hl : l.Pairwise (· ≤ ·)) (hm : m.Pairwise (· ≤ ·)) : l = m := h.eq_of_pairwise (fun a b _ _ h1 h2 => by omega) hl hm
theorem isort_eq {l m : List Int} (h : l.Perm m) : isort l = isort m := sorted_uniq_m ((isort_perm_m l).trans (h.trans (isort_perm_m m).symm)) (isort_sorted_m l) (isort_sorted_m m)
theorem isort_id {l : List Int} (h : l.Pairwise (· ≤ ·)) : isort l = l := sorted_uniq_m (isort_perm_m l) (isort_sorted_m l) h
theorem isort_iff {l m : List Int} : isort l = isort m ↔ l.Perm m := ⟨fun h => (isort_perm_m l).symm.trans (h ▸ isort_perm_m m), isort_eq⟩
theorem iota_le (n : Nat) (a : Int) : (iota a n).Pairwise (· ≤ ·) := (iota_sorted n a).imp fun h => by omega
theorem isort_iota {l : List Int} {n : Nat} : isort l = iota 0 n ↔ l.Perm (iota 0 n) := by
  rw [← isort_iff, isort_id (iota_le n 0)]
/-! ### least ones -/
theorem minL_spec_m : ∀ (l : List Int) (x : Int), minL x l ∈ x :: l ∧ ∀ y ∈ x :: l, minL x l ≤ y
  | [], x => by simp [minL]
  | y :: r, x => by
    unfold minL
    by_cases c : y < x
    · rw [if_pos c]
      obtain ⟨h1, h2⟩ := minL_spec_m r y
      refine ⟨List.mem_cons_of_mem _ h1, fun z hz => ?_⟩
      rcases List.mem_cons.mp hz with rfl | hz
      · have := h2 y List.mem_cons_self
        omega
      · exact h2 z hz
    · rw [if_neg c]
      obtain ⟨h1, h2⟩ := minL_spec_m r x
      refine ⟨?_, fun z hz => ?_⟩
      · rcases List.mem_cons.mp h1 with h | h
        · rw [h]; exact List.mem_cons_self
        · exact List.mem_cons_of_mem _ (List.mem_cons_of_mem _ h)
      · rcases List.mem_cons.mp hz with rfl | hz
        · exact h2 z List.mem_cons_self
        · rcases List.mem_cons.mp hz with rfl | hz
          · have := h2 x List.mem_cons_self
            omega
          · exact h2 z (List.mem_cons_of_mem _ hz)
def least : List Int → Int
  | [] => 0
  | x :: r => minL x r
theorem minI_ok {l : List Int} (h : l ≠ []) : minI l = .ok (least l) := by
  cases l with
  | nil => exact absurd rfl h
  | cons x r => rfl
theorem least_mem {l : List Int} (h : l ≠ []) : least l ∈ l := by
  cases l with
  | nil => exact absurd rfl h
  | cons x r => exact (minL_spec_m r x).1
theorem least_le {l : List Int} {x : Int} (h : x ∈ l) : least l ≤ x := by
  cases l with
  | nil => cases h
  | cons y r => exact (minL_spec_m r y).2 x h
theorem least_perm {l m : List Int} (h : l.Perm m) : least l = least m := by
  cases l with
  | nil => rw [h.nil_eq]
  | cons x r =>
    have h1 : m ≠ [] := fun e => by rw [e] at h; exact absurd h.eq_nil (by simp)
    have a := least_le (h.mem_iff.mpr (least_mem h1))
    have b := least_le (h.mem_iff.mp (least_mem (l := x :: r) (by simp)))
    omega
/-! ### trees -/
mutual
def Tr.leaves : Tr → List Int
  | .leaf i => [i]
  | .node _ ps => leavesL ps
def leavesL : List Tr → List Int
  | [] => []
  | t :: r => t.leaves ++ leavesL r
end
mutual
def Tr.dep : Tr → Nat
  | .leaf _ => 0
  | .node _ ps => depL ps + 1
def depL : List Tr → Nat
  | [] => 0
  | t :: r => max t.dep (depL r)
end
mutual
def Tr.Form : Tr → Prop
  | .leaf _ => True
  | .node w ps => 2 ≤ ps.length ∧ (w = false → 3 ≤ ps.length) ∧ FormL ps
def FormL : List Tr → Prop
  | [] => True
  | t :: r => t.Form ∧ FormL r
end
theorem Tr.ind {P : Tr → Prop} (hl : ∀ i, P (.leaf i)) (hn : ∀ w ps, (∀ p ∈ ps, P p) → P (.node w ps)) (t : Tr) : P t :=
  Tr.rec (motive_1 := P) (motive_2 := fun ps => ∀ p ∈ ps, P p) hl hn (fun p h => by cases h) (fun t r h1 h2 p h => by
    rcases List.mem_cons.mp h with rfl | h
    · exact h1
    · exact h2 p h) t
theorem leavesL_eq : ∀ ps : List Tr, leavesL ps = (ps.map Tr.leaves).flatten
  | [] => by simp [leavesL]
  | t :: r => by simp [leavesL, leavesL_eq r]
theorem FormL_iff : ∀ {ps : List Tr}, FormL ps ↔ ∀ p ∈ ps, p.Form
  | [] => by simp [FormL]
  | t :: r => by simp [FormL, FormL_iff (ps := r)]
theorem depL_le : ∀ {ps : List Tr} {p : Tr}, p ∈ ps → p.dep ≤ depL ps
  | t :: r, p, h => by
    simp only [depL]
    rcases List.mem_cons.mp h with rfl | h
    · omega
    · have := depL_le h; omega
theorem depL_lub {n : Nat} : ∀ {ps : List Tr}, (∀ p ∈ ps, p.dep ≤ n) → depL ps ≤ n
  | [], _ => by simp [depL]
  | t :: r, h => by
    simp only [depL]
    have := h t List.mem_cons_self
    have := depL_lub (ps := r) fun p m => h p (List.mem_cons_of_mem _ m)
    omega
theorem dep_part {w : Bool} {ps : List Tr} {p : Tr} (h : p ∈ ps) : p.dep < (Tr.node w ps).dep := by
  have := depL_le h
  simp only [Tr.dep]; omega
@[simp] theorem leaves_leaf {i : Int} : (Tr.leaf i).leaves = [i] := by simp [Tr.leaves]
@[simp] theorem leaves_node {w : Bool} {ps : List Tr} : (Tr.node w ps).leaves = leavesL ps := by simp [Tr.leaves]
@[simp] theorem leavesL_nil : leavesL [] = [] := by simp [leavesL]
@[simp] theorem leavesL_cons {t : Tr} {r : List Tr} : leavesL (t :: r) = t.leaves ++ leavesL r := by simp [leavesL]
theorem leavesL_append : ∀ {a b : List Tr}, leavesL (a ++ b) = leavesL a ++ leavesL b
  | [], b => by simp
  | t :: a, b => by simp [leavesL_append (a := a)]
theorem Form_node {w : Bool} {ps : List Tr} : (Tr.node w ps).Form ↔ 2 ≤ ps.length ∧ (w = false → 3 ≤ ps.length) ∧ ∀ p ∈ ps, p.Form := by
  simp only [Tr.Form, FormL_iff]
theorem leaves_pos (t : Tr) (h : t.Form) : 0 < t.leaves.length := by
  induction t using Tr.ind with
  | hl i => simp
  | hn w ps ih =>
    obtain ⟨h1, _, h3⟩ := Form_node.mp h
    match ps, h1 with
    | p :: r, _ =>
      have := ih p List.mem_cons_self (h3 p List.mem_cons_self)
      simp; omega
theorem leavesL_len : ∀ {ps : List Tr} {p : Tr}, p ∈ ps → (∀ p ∈ ps, 0 < p.leaves.length) → p.leaves.length + ps.length ≤ (leavesL ps).length + 1
  | t :: r, p, h, hp => by
    simp only [leavesL_cons, List.length_append, List.length_cons]
    have ht := hp t List.mem_cons_self
    rcases List.mem_cons.mp h with rfl | h
    · have : ∀ r : List Tr, (∀ p ∈ r, 0 < p.leaves.length) → r.length ≤ (leavesL r).length := by
        intro r
        induction r with
        | nil => simp
        | cons x r ih =>
          intro q
          have := ih fun p m => q p (List.mem_cons_of_mem _ m)
          have := q x List.mem_cons_self
          simp; omega
      have := this r fun p m => hp p (List.mem_cons_of_mem _ m)
      omega
    · have := leavesL_len h fun p m => hp p (List.mem_cons_of_mem _ m)
      omega
theorem dep_lt (t : Tr) (h : t.Form) : t.dep < t.leaves.length := by
  induction t using Tr.ind with
  | hl i => simp [Tr.dep]
  | hn w ps ih =>
    obtain ⟨h1, _, h3⟩ := Form_node.mp h
    have key : depL ps ≤ (leavesL ps).length - 2 := depL_lub fun p m => by
      have a := ih p m (h3 p m)
      have b := leavesL_len m fun p m => leaves_pos p (h3 p m)
      omega
    match ps, h1 with
    | p :: q :: r, _ =>
      have a := leaves_pos p (h3 p (by simp))
      have b := leaves_pos q (h3 q (by simp))
      simp only [Tr.dep, leaves_node]
      have : 2 ≤ (leavesL (p :: q :: r)).length := by simp; omega
      omega
theorem perm_leavesL {a b : List Tr} (h : a.Perm b) : (leavesL a).Perm (leavesL b) := by
  rw [leavesL_eq, leavesL_eq]
  exact (h.map _).flatten
/-! ### compared trees -/
theorem lay_tr (t : Tr) : (eTr t).canLay0 = true := by
  induction t using Tr.ind with
  | hl i => rw [eTr]; rfl
  | hn w ps ih =>
    rw [eTr, eTrs_map]
    have : PyData.canLayAll0 (ps.map eTr) = true := by
      induction ps with
      | nil => simp [PyData.canLayAll0]
      | cons p r ih2 => simp [PyData.canLayAll0, ih p List.mem_cons_self, ih2 fun p m => ih p (List.mem_cons_of_mem _ m)]
    simp only [PyData.canLay0, PyData.canLayAll0, this, Bool.and_true]
    exact q_W.lay w
theorem ddep_tr (t : Tr) : (eTr t).depth ≤ 2 * t.dep := by
  induction t using Tr.ind with
  | hl i => rw [eTr]; simp [PyData.depth]
  | hn w ps ih =>
    rw [eTr, eTrs_map]
    have : PyData.depthAll (ps.map eTr) ≤ 2 * depL ps := by
      induction ps with
      | nil => simp [PyData.depthAll]
      | cons p r ih2 =>
        have a := ih p List.mem_cons_self
        have b := ih2 fun p m => ih p (List.mem_cons_of_mem _ m)
        simp only [List.map_cons, PyData.depthAll, depL]
        omega
    simp only [PyData.depth, PyData.depthAll, Tr.dep]
    omega
theorem eqv_tr (a : Tr) : ∀ b : Tr, PyData.eqv (eTr a) (eTr b) = true ↔ a = b := by
  induction a using Tr.ind with
  | hl i =>
    intro b
    cases b with
    | leaf j => rw [eTr, eTr]; simp [PyData.eqv]
    | node w ps => rw [eTr, eTr]; simp [PyData.eqv]
  | hn w ps ih =>
    intro b
    cases b with
    | leaf j => rw [eTr, eTr]; simp [PyData.eqv]
    | node v qs =>
      have key : ∀ qs : List Tr, PyData.eqvAll (ps.map eTr) (qs.map eTr) = true ↔ ps = qs := by
        induction ps with
        | nil => intro qs; cases qs <;> simp [PyData.eqvAll]
        | cons p r ih2 =>
          intro qs
          cases qs with
          | nil => simp [PyData.eqvAll]
          | cons q s =>
            simp only [List.map_cons, PyData.eqvAll, Bool.and_eq_true, ih p List.mem_cons_self q, ih2 (fun p m => ih p (List.mem_cons_of_mem _ m)) s, List.cons.injEq]
      rw [eTr, eTr, eTrs_map, eTrs_map]
      simp only [PyData.eqv, PyData.eqvAll, Bool.and_true, Bool.and_eq_true, key qs, Tr.node.injEq]
      have : PyData.eqv (PyData.str (wS w)) (PyData.str (wS v)) = decide (w = v) := q_W.eqv w v
      rw [show (wS w == wS v) = PyData.eqv (PyData.str (wS w)) (PyData.str (wS v)) by simp [PyData.eqv], this]
      simp
theorem shaped_tr {t : Tr} (h : t.dep ≤ 31) : SeqAt.shaped (eTr t) = true := by
  have := ddep_tr t
  simp only [SeqAt.shaped, lay_tr, Bool.true_and, decide_eq_true_eq]
  omega
theorem lay_trs : ∀ l : List Tr, PyData.canLayAll0 (l.map eTr) = true
  | [] => by simp [PyData.canLayAll0]
  | t :: r => by simp [PyData.canLayAll0, lay_tr, lay_trs r]
theorem shaped_trs {l : List Tr} (h : ∀ t ∈ l, t.dep ≤ 31) : SeqAt.shaped (eL eTr l) = true := by
  have : PyData.depthAll (l.map eTr) ≤ 62 := by
    induction l with
    | nil => simp [PyData.depthAll]
    | cons t r ih =>
      have a := ddep_tr t
      have b := h t List.mem_cons_self
      have c := ih fun t m => h t (List.mem_cons_of_mem _ m)
      simp only [List.map_cons, PyData.depthAll]
      omega
  simp only [SeqAt.shaped, eL, PyData.canLay0, PyData.depth, lay_trs, Bool.true_and]
  exact decide_eq_true (by omega)
open Classical in
theorem eqTrB_ok {a b : Tr} (h : a.dep ≤ 31) (h' : b.dep ≤ 31) : eqTrB a b = .ok (decide (a = b)) := by
  unfold eqTrB
  simp only [shaped_tr h, shaped_tr h', Bool.and_self, if_true]
  congr 1
  rw [Bool.eq_iff_iff, eqv_tr]
  simp
open Classical in
theorem neTrB_ok {a b : Tr} (h : a.dep ≤ 31) (h' : b.dep ≤ 31) : neTrB a b = .ok (!decide (a = b)) := by
  unfold neTrB
  rw [eqTrB_ok h h']; rfl
theorem eqNil_tr {l : List Tr} (h : ∀ t ∈ l, t.dep ≤ 31) : eqNil eTr l = .ok l.isEmpty := by
  unfold eqNil; rw [if_pos (shaped_trs h)]
theorem neNil_tr {l : List Tr} (h : ∀ t ∈ l, t.dep ≤ 31) : neNil eTr l = .ok (!l.isEmpty) := by
  unfold neNil; rw [eqNil_tr h]; rfl
end PC

set_option Elab.async false
set_option linter.all false
set_option maxRecDepth 100000
/-! ML2: trees up to the sequence of their parts; the normal form. -/
namespace PC
open PySem
/-- another sequence of the parts -/
def Arr (w : Bool) (ps qs : List Tr) : Prop := match w with
  | true => qs.Perm ps
  | false => qs = ps ∨ qs = ps.reverse
theorem Arr.perm {w : Bool} {ps qs : List Tr} (h : Arr w ps qs) : qs.Perm ps := by
  cases w with
  | true => exact h
  | false =>
    rcases h with rfl | rfl
    · exact .refl _
    · exact List.reverse_perm ps
theorem Arr.refl {w : Bool} {ps : List Tr} : Arr w ps ps := by
  cases w with
  | true => exact List.Perm.refl _
  | false => exact .inl rfl
theorem Arr.symm {w : Bool} {ps qs : List Tr} (h : Arr w ps qs) : Arr w qs ps := by
  cases w with
  | true => exact List.Perm.symm h
  | false =>
    rcases h with rfl | rfl
    · exact .inl rfl
    · exact .inr (by simp)
theorem Arr.trans {w : Bool} {ps qs rs : List Tr} (h : Arr w ps qs) (h' : Arr w qs rs) : Arr w ps rs := by
  cases w with
  | true => exact List.Perm.trans h' h
  | false =>
    rcases h with rfl | rfl
    · exact h'
    · rcases h' with rfl | rfl
      · exact .inr rfl
      · exact .inl (by simp)
mutual
/-- the same tree, its parts in another sequence -/
inductive Same : Tr → Tr → Prop
  | leaf (i : Int) : Same (.leaf i) (.leaf i)
  | node {w : Bool} {ps qs rs : List Tr} : Arr w ps qs → SameL qs rs → Same (.node w ps) (.node w rs)
inductive SameL : List Tr → List Tr → Prop
  | nil : SameL [] []
  | cons {a b : Tr} {r s : List Tr} : Same a b → SameL r s → SameL (a :: r) (b :: s)
end
theorem SameL.length : ∀ {a b : List Tr}, SameL a b → a.length = b.length
  | _, _, .nil => rfl
  | _, _, .cons _ h => by simp [SameL.length h]
theorem SameL.append : ∀ {a b c d : List Tr}, SameL a b → SameL c d → SameL (a ++ c) (b ++ d)
  | _, _, _, _, .nil, h => h
  | _, _, _, _, .cons h1 h2, h => .cons h1 (SameL.append h2 h)
theorem SameL.reverse : ∀ {a b : List Tr}, SameL a b → SameL a.reverse b.reverse
  | _, _, .nil => .nil
  | _, _, .cons h1 h2 => by
    simp only [List.reverse_cons]
    exact SameL.append (SameL.reverse h2) (.cons h1 .nil)
theorem SameL.of_forall : ∀ {ps : List Tr} {f : Tr → Tr}, (∀ p ∈ ps, Same p (f p)) → SameL ps (ps.map f)
  | [], _, _ => .nil
  | p :: r, f, h => .cons (h p List.mem_cons_self) (SameL.of_forall fun q m => h q (List.mem_cons_of_mem _ m))
theorem SameL.perm {a b : List Tr} (h : SameL a b) {c : List Tr} (p : a.Perm c) : ∃ d, b.Perm d ∧ SameL c d := by
  induction p generalizing b with
  | nil => cases h; exact ⟨[], .refl _, .nil⟩
  | cons x _ ih =>
    cases h with
    | cons h1 h2 =>
      obtain ⟨d, p, q⟩ := ih h2
      exact ⟨_ :: d, p.cons _, .cons h1 q⟩
  | swap x y l =>
    cases h with
    | cons h1 h2 =>
      cases h2 with
      | cons h2 h3 => exact ⟨_ :: _ :: _, .swap _ _ _, .cons h2 (.cons h1 h3)⟩
  | trans _ _ ih1 ih2 =>
    obtain ⟨d, p, q⟩ := ih1 h
    obtain ⟨e, p2, q2⟩ := ih2 q
    exact ⟨e, p.trans p2, q2⟩
theorem SameL.arr {w : Bool} {a b : List Tr} (h : SameL a b) {c : List Tr} (p : Arr w a c) : ∃ d, Arr w b d ∧ SameL c d := by
  cases w with
  | true =>
    obtain ⟨d, q, r⟩ := h.perm (List.Perm.symm p)
    exact ⟨d, q.symm, r⟩
  | false =>
    rcases p with rfl | rfl
    · exact ⟨b, .inl rfl, h⟩
    · exact ⟨b.reverse, .inr rfl, h.reverse⟩
theorem SameL.perm_r {a b : List Tr} (h : SameL a b) {c : List Tr} (p : b.Perm c) : ∃ d, a.Perm d ∧ SameL d c := by
  induction p generalizing a with
  | nil => cases h; exact ⟨[], .refl _, .nil⟩
  | cons x _ ih =>
    cases h with
    | cons h1 h2 =>
      obtain ⟨d, p, q⟩ := ih h2
      exact ⟨_ :: d, p.cons _, .cons h1 q⟩
  | swap x y l =>
    cases h with
    | cons h1 h2 =>
      cases h2 with
      | cons h2 h3 => exact ⟨_ :: _ :: _, .swap _ _ _, .cons h2 (.cons h1 h3)⟩
  | trans _ _ ih1 ih2 =>
    obtain ⟨d, p, q⟩ := ih1 h
    obtain ⟨e, p2, q2⟩ := ih2 q
    exact ⟨e, p.trans p2, q2⟩
theorem SameL.arr_r {w : Bool} {a b : List Tr} (h : SameL a b) {c : List Tr} (p : Arr w b c) : ∃ d, Arr w a d ∧ SameL d c := by
  cases w with
  | true =>
    obtain ⟨d, q, r⟩ := h.perm_r (List.Perm.symm p)
    exact ⟨d, q.symm, r⟩
  | false =>
    rcases p with rfl | rfl
    · exact ⟨a, .inl rfl, h⟩
    · exact ⟨a.reverse, .inr rfl, h.reverse⟩
theorem Same.refl (t : Tr) : Same t t := by
  induction t using Tr.ind with
  | hl i => exact .leaf i
  | hn w ps ih =>
    refine .node .refl ?_
    have := SameL.of_forall (f := fun p => p) ih
    rwa [List.map_id'] at this
theorem SameL.refl (l : List Tr) : SameL l l := by
  have := SameL.of_forall (ps := l) (f := fun p => p) fun p _ => Same.refl p
  rwa [List.map_id'] at this
mutual
theorem Same.symm : ∀ {a b : Tr}, Same a b → Same b a
  | _, _, .leaf i => .leaf i
  | _, _, .node h1 h2 => by
    obtain ⟨d, q, r⟩ := (SameL.symm h2).arr_r h1.symm
    exact .node q r
theorem SameL.symm : ∀ {a b : List Tr}, SameL a b → SameL b a
  | _, _, .nil => .nil
  | _, _, .cons h1 h2 => .cons (Same.symm h1) (SameL.symm h2)
end
theorem SameL.trans_of {a b c : List Tr} (h : SameL a b) (h' : SameL b c) (ih : ∀ x ∈ a, ∀ b c, Same x b → Same b c → Same x c) : SameL a c := by
  induction a generalizing b c with
  | nil => cases h; exact h'
  | cons x r ih2 =>
    cases h with
    | cons h1 h2 =>
      cases h' with
      | cons h3 h4 => exact .cons (ih x List.mem_cons_self _ _ h1 h3) (ih2 h2 h4 fun y m => ih y (List.mem_cons_of_mem _ m))
theorem Same.trans {a b c : Tr} (h : Same a b) (h' : Same b c) : Same a c := by
  induction a using Tr.ind generalizing b c with
  | hl i => cases h; exact h'
  | hn w ps ih =>
    cases h with
    | node h1 h2 =>
      cases h' with
      | node h3 h4 =>
        obtain ⟨d, q, r⟩ := h2.arr_r h3
        exact .node (h1.trans q) (r.trans_of h4 fun x m b c e1 e2 => ih x (h1.perm.mem_iff.mp (q.perm.mem_iff.mp m)) e1 e2)
theorem SameL.trans {a b c : List Tr} (h : SameL a b) (h' : SameL b c) : SameL a c := by
  induction a generalizing b c with
  | nil => cases h; exact h'
  | cons x r ih =>
    cases h with
    | cons h1 h2 =>
      cases h' with
      | cons h3 h4 => exact .cons (h1.trans h3) (ih h2 h4)
mutual
theorem Same.leaves : ∀ {a b : Tr}, Same a b → b.leaves.Perm a.leaves
  | _, _, .leaf i => .refl _
  | _, _, .node h1 h2 => by
    rw [leaves_node, leaves_node]
    exact (SameL.leaves h2).trans (perm_leavesL h1.perm)
theorem SameL.leaves : ∀ {a b : List Tr}, SameL a b → (leavesL b).Perm (leavesL a)
  | _, _, .nil => .refl _
  | _, _, .cons h1 h2 => by
    rw [leavesL_cons, leavesL_cons]
    exact (Same.leaves h1).append (SameL.leaves h2)
end
mutual
theorem Same.form : ∀ {a b : Tr}, Same a b → a.Form → b.Form
  | _, _, .leaf i, h => h
  | _, _, .node h1 h2, h => by
    obtain ⟨f1, f2, f3⟩ := Form_node.mp h
    have e := h1.perm.length_eq
    have e2 := h2.length
    exact Form_node.mpr ⟨by omega, fun q => by have := f2 q; omega, SameL.form h2 fun p m => f3 p (h1.perm.mem_iff.mp m)⟩
theorem SameL.form : ∀ {a b : List Tr}, SameL a b → (∀ p ∈ a, p.Form) → ∀ p ∈ b, p.Form
  | _, _, .nil, h => h
  | _, _, .cons h1 h2, h => by
    have k1 := Same.form h1 (h _ List.mem_cons_self)
    have k2 := SameL.form h2 (fun q m => h q (List.mem_cons_of_mem _ m))
    intro p m
    rcases List.mem_cons.mp m with e | m
    · rw [e]; exact k1
    · exact k2 p m
end
/-! ### the normal form -/
def tl (t : Tr) : Int := least t.leaves
def leT (a b : Tr) : Bool := decide (tl a ≤ tl b)
def sortT (ps : List Tr) : List Tr := ps.mergeSort leT
def flipT (ps : List Tr) : List Tr := match ps.head?, ps.getLast? with
  | some a, some b => if tl b < tl a then ps.reverse else ps
  | _, _ => ps
mutual
def Tr.norm : Tr → Tr
  | .leaf i => .leaf i
  | .node true ps => .node true (sortT (normL ps))
  | .node false ps => .node false (flipT (normL ps))
def normL : List Tr → List Tr
  | [] => []
  | t :: r => t.norm :: normL r
end
theorem normL_map : ∀ ps : List Tr, normL ps = ps.map Tr.norm
  | [] => by simp [normL]
  | t :: r => by simp [normL, normL_map r]
theorem sortT_perm (ps : List Tr) : (sortT ps).Perm ps := List.mergeSort_perm ps leT
theorem leT_trans (a b c : Tr) (h : leT a b = true) (h' : leT b c = true) : leT a c = true := by
  simp only [leT, decide_eq_true_eq] at *; omega
theorem leT_total (a b : Tr) : (leT a b || leT b a) = true := by
  simp only [leT, Bool.or_eq_true, decide_eq_true_eq]; omega
theorem sortT_sorted (ps : List Tr) : (sortT ps).Pairwise fun a b => tl a ≤ tl b := by
  have := List.pairwise_mergeSort leT_trans leT_total ps
  exact this.imp fun h => by simpa [leT] using h
theorem flipT_arr (ps : List Tr) : Arr false ps (flipT ps) := by
  unfold flipT
  split
  · split
    · exact .inr rfl
    · exact .inl rfl
  · exact .inl rfl
theorem norm_arr (w : Bool) (ps : List Tr) : ∃ qs, Arr w (normL ps) qs ∧ (Tr.node w ps).norm = .node w qs := by
  cases w with
  | true => exact ⟨_, sortT_perm _, by simp [Tr.norm]⟩
  | false => exact ⟨_, flipT_arr _, by simp [Tr.norm]⟩
theorem norm_same (t : Tr) : Same t t.norm := by
  induction t using Tr.ind with
  | hl i => simp only [Tr.norm]; exact .leaf i
  | hn w ps ih =>
    obtain ⟨qs, h1, h2⟩ := norm_arr w ps
    rw [h2]
    have h3 : SameL ps (normL ps) := by rw [normL_map]; exact SameL.of_forall ih
    obtain ⟨d, q, r⟩ := h3.arr_r h1
    exact .node q r
/-- two sorted lists of the same trees with different least things -/
theorem sort_uniq {a b : List Tr} (p : a.Perm b) (ha : a.Pairwise fun x y => tl x ≤ tl y) (hb : b.Pairwise fun x y => tl x ≤ tl y) (h : ∀ x ∈ a, ∀ y ∈ a, tl x = tl y → x = y) : a = b :=
  p.eq_of_pairwise (fun x y hx hy h1 h2 => h x hx y (p.mem_iff.mpr hy) (by omega)) ha hb
theorem tl_mem {t : Tr} (h : t.Form) : tl t ∈ t.leaves := least_mem (List.length_pos_iff.mp (leaves_pos t h))
theorem tl_inj {ps : List Tr} (hf : ∀ p ∈ ps, p.Form) (hn : (leavesL ps).Nodup) : ∀ x ∈ ps, ∀ y ∈ ps, tl x = tl y → x = y := by
  induction ps with
  | nil => intro x h; cases h
  | cons p r ih =>
    rw [leavesL_cons] at hn
    obtain ⟨h1, h2, h3⟩ := List.nodup_append.mp hn
    have key : ∀ y ∈ r, tl y ∈ leavesL r := fun y m => by
      rw [leavesL_eq]
      exact List.mem_flatten.mpr ⟨_, List.mem_map.mpr ⟨y, m, rfl⟩, tl_mem (hf y (List.mem_cons_of_mem _ m))⟩
    intro x hx y hy e
    rcases List.mem_cons.mp hx with rfl | hx
    · rcases List.mem_cons.mp hy with rfl | hy
      · rfl
      · exact absurd e (h3 _ (tl_mem (hf x List.mem_cons_self)) _ (key y hy))
    · rcases List.mem_cons.mp hy with e2 | hy
      · rw [e2] at e
        exact absurd e.symm (h3 _ (tl_mem (hf p List.mem_cons_self)) _ (key x hx))
      · exact ih (fun q m => hf q (List.mem_cons_of_mem _ m)) h2 x hx y hy e
theorem tl_norm (t : Tr) : tl t.norm = tl t := least_perm (norm_same t).leaves
theorem flip_rev {ps : List Tr} (h2 : 2 ≤ ps.length) (hd : ∀ x ∈ ps, ∀ y ∈ ps, tl x = tl y → x = y) (hne : ps.head? ≠ ps.getLast?) : flipT ps.reverse = flipT ps := by
  unfold flipT
  rw [List.head?_reverse, List.getLast?_reverse]
  cases ha : ps.head? with
  | none => rw [List.head?_eq_none_iff] at ha; rw [ha] at h2; simp at h2
  | some a =>
    cases hb : ps.getLast? with
    | none => rw [List.getLast?_eq_none_iff] at hb; rw [hb] at h2; simp at h2
    | some b =>
      have hab : tl a ≠ tl b := fun e => hne (by rw [ha, hb, hd a (List.mem_of_head? ha) b (List.mem_of_getLast? hb) e])
      simp only [List.reverse_reverse]
      by_cases c : tl a < tl b
      · rw [if_pos c, if_neg (by omega)]
      · rw [if_neg c, if_pos (by omega)]
theorem head_ne_last {ps : List Tr} (h2 : 2 ≤ ps.length) (hf : ∀ p ∈ ps, p.Form) (hn : (leavesL ps).Nodup) : ps.head? ≠ ps.getLast? := by
  match ps, h2 with
  | p :: q :: r, _ =>
    intro e
    rw [List.head?_cons, List.getLast?_cons_cons] at e
    have m : p ∈ q :: r := List.mem_of_getLast? e.symm
    rw [leavesL_cons] at hn
    obtain ⟨_, _, h3⟩ := List.nodup_append.mp hn
    have k : tl p ∈ leavesL (q :: r) := by
      rw [leavesL_eq]
      exact List.mem_flatten.mpr ⟨_, List.mem_map.mpr ⟨p, m, rfl⟩, tl_mem (hf p List.mem_cons_self)⟩
    exact h3 _ (tl_mem (hf p List.mem_cons_self)) _ k rfl
mutual
theorem norm_eq : ∀ {a b : Tr}, Same a b → a.Form → a.leaves.Nodup → a.norm = b.norm
  | _, _, .leaf i, _, _ => rfl
  | _, _, .node (w := w) (ps := ps) (qs := qs) (rs := rs) h1 h2, hf, hn => by
    obtain ⟨f1, f2, f3⟩ := Form_node.mp hf
    rw [leaves_node] at hn
    have g3 : ∀ p ∈ qs, p.Form := fun p m => f3 p (h1.perm.mem_iff.mp m)
    have hnq : (leavesL qs).Nodup := (perm_leavesL h1.perm).nodup_iff.mpr hn
    have e : normL qs = normL rs := normL_eq h2 g3 hnq
    have fn : ∀ p ∈ normL ps, p.Form := fun p m => by
      rw [normL_map] at m
      obtain ⟨q, m', rfl⟩ := List.mem_map.mp m
      exact (norm_same q).form (f3 q m')
    have h3 : SameL ps (normL ps) := by rw [normL_map]; exact SameL.of_forall fun p _ => norm_same p
    have nn : (leavesL (normL ps)).Nodup := h3.leaves.nodup_iff.mpr hn
    have ti := tl_inj fn nn
    cases w with
    | true =>
      have p1 : (normL qs).Perm (normL ps) := by rw [normL_map, normL_map]; exact List.Perm.map _ h1
      simp only [Tr.norm]
      congr 1
      have p2 : (sortT (normL ps)).Perm (sortT (normL rs)) := (sortT_perm _).trans (p1.symm.trans (e ▸ (sortT_perm _).symm))
      exact sort_uniq p2 (sortT_sorted _) (sortT_sorted _) fun x hx y hy => ti x ((sortT_perm _).mem_iff.mp hx) y ((sortT_perm _).mem_iff.mp hy)
    | false =>
      simp only [Tr.norm]
      congr 1
      rcases h1 with rfl | rfl
      · rw [e]
      · have e3 : normL ps.reverse = (normL ps).reverse := by rw [normL_map, normL_map, List.map_reverse]
        rw [← e, e3]
        have l2 : 2 ≤ (normL ps).length := by rw [normL_map, List.length_map]; exact f1
        exact (flip_rev l2 ti (head_ne_last l2 fn nn)).symm
theorem normL_eq : ∀ {a b : List Tr}, SameL a b → (∀ p ∈ a, p.Form) → (leavesL a).Nodup → normL a = normL b
  | _, _, .nil, _, _ => rfl
  | _, _, .cons h1 h2, hf, hn => by
    rw [leavesL_cons] at hn
    obtain ⟨n1, n2, _⟩ := List.nodup_append.mp hn
    simp only [normL]
    rw [norm_eq h1 (hf _ List.mem_cons_self) n1, normL_eq h2 (fun p m => hf p (List.mem_cons_of_mem _ m)) n2]
end
theorem norm_iff {a b : Tr} (hf : a.Form) (hn : a.leaves.Nodup) : a.norm = b.norm ↔ Same a b :=
  ⟨fun h => (norm_same a).trans (h ▸ (norm_same b).symm), fun h => norm_eq h hf hn⟩
theorem norm_norm {a : Tr} (hf : a.Form) (hn : a.leaves.Nodup) : a.norm.norm = a.norm := (norm_eq (norm_same a) hf hn).symm
mutual
/-- in the normal form -/
def Tr.Norm : Tr → Prop
  | .leaf _ => True
  | .node true ps => NormL ps ∧ ps.Pairwise fun a b => tl a ≤ tl b
  | .node false ps => NormL ps ∧ ∀ a b, ps.head? = some a → ps.getLast? = some b → tl a ≤ tl b
def NormL : List Tr → Prop
  | [] => True
  | t :: r => t.Norm ∧ NormL r
end
theorem NormL_iff : ∀ {ps : List Tr}, NormL ps ↔ ∀ p ∈ ps, p.Norm
  | [] => by simp [NormL]
  | t :: r => by simp [NormL, NormL_iff (ps := r)]
theorem norm_Norm (t : Tr) : t.norm.Norm := by
  induction t using Tr.ind with
  | hl i => simp [Tr.norm, Tr.Norm]
  | hn w ps ih =>
    have hN : ∀ p ∈ normL ps, p.Norm := fun p m => by
      rw [normL_map] at m
      obtain ⟨q, m', rfl⟩ := List.mem_map.mp m
      exact ih q m'
    cases w with
    | true =>
      simp only [Tr.norm, Tr.Norm]
      exact ⟨NormL_iff.mpr fun p m => hN p ((sortT_perm _).mem_iff.mp m), sortT_sorted _⟩
    | false =>
      simp only [Tr.norm, Tr.Norm]
      refine ⟨NormL_iff.mpr fun p m => hN p ((flipT_arr _).perm.mem_iff.mp m), fun a b ha hb => ?_⟩
      unfold flipT at ha hb
      split at ha
      · rename_i x y hx hy
        simp only [hx, hy] at hb
        split at ha
        · rename_i c
          rw [if_pos c] at hb
          rw [List.head?_reverse, hy] at ha
          rw [List.getLast?_reverse, hx] at hb
          cases ha; cases hb; omega
        · rename_i c
          rw [if_neg c] at hb
          rw [hx] at ha
          rw [hy] at hb
          cases ha; cases hb; omega
      · rename_i hno
        cases hx : (normL ps).head? with
        | none => rw [hx] at ha; cases ha
        | some x =>
          cases hy : (normL ps).getLast? with
          | none =>
            rw [List.getLast?_eq_none_iff] at hy
            rw [hy] at hx; cases hx
          | some y => exact absurd hy (hno x y hx)
end PC

set_option Elab.async false
set_option linter.all false
set_option maxRecDepth 100000
/-! ML3: the typed defs of trees, and the helpers of the laws. -/
namespace PC
open PySem
theorem succ_of {k n : Nat} (h : n + 1 ≤ k) : ∃ j, k = j + 1 ∧ n ≤ j := ⟨k - 1, by omega, by omega⟩
theorem is_thing_ok {k : Nat} {t : Tr} (h : 1 ≤ k) : f_is_thing k t = .ok t.isLeaf := by
  obtain ⟨k, rfl, _⟩ := succ_of h
  simp [f_is_thing]
theorem is_thing1_ok {k : Nat} {t : List Tr} (h : 1 ≤ k) : f_is_thing_1 k t = .ok false := by
  obtain ⟨k, rfl, _⟩ := succ_of h
  simp [f_is_thing_1]
theorem appL_ok {α σ ρ : Type} {l : List α} {a : α} {k : List α → Fl σ ρ} (h : l.length ≤ 1000000) : appL l a k = k (l ++ [a]) := by
  unfold appL; exact if_pos (by show l.length < 10000000; omega)
theorem extL_ok {α σ ρ : Type} {l m : List α} {k : List α → Fl σ ρ} (h : l.length + m.length ≤ 1000000) : extL l m k = k (l ++ m) := by
  unfold extL; exact if_pos (by show _ < 10000000; omega)
theorem insL_ok {α σ ρ : Type} {l : List α} {z : Int} {a : α} {k : List α → Fl σ ρ} (h0 : 0 ≤ z) (h1 : z ≤ l.length) (h : l.length ≤ 1000000) : insL l z a k = k (l.take z.toNat ++ a :: l.drop z.toNat) := by
  unfold insL; exact if_pos ⟨h0, h1, by show _ < 10000000; omega⟩
theorem catL_ok {α : Type} {a b : List α} (h : a.length + b.length ≤ 1000000) : catL a b = .ok (a ++ b) := by
  unfold catL; exact if_pos (Nat.le_trans h (by decide))
theorem nodup_part {ps : List Tr} {p : Tr} (h : p ∈ ps) (hn : (leavesL ps).Nodup) : p.leaves.Nodup := by
  induction ps with
  | nil => cases h
  | cons q r ih =>
    rw [leavesL_cons] at hn
    obtain ⟨h1, h2, _⟩ := List.nodup_append.mp hn
    rcases List.mem_cons.mp h with rfl | h
    · exact h1
    · exact ih h h2
theorem len_part {ps : List Tr} {p : Tr} (h : p ∈ ps) : p.leaves.length ≤ (leavesL ps).length := by
  induction ps with
  | nil => cases h
  | cons q r ih =>
    simp only [leavesL_cons, List.length_append]
    rcases List.mem_cons.mp h with rfl | h
    · omega
    · have := ih h; omega
theorem depL_perm {a b : List Tr} (h : a.Perm b) : depL a = depL b := by
  induction h with
  | nil => rfl
  | cons x _ ih => simp only [depL, ih]
  | swap x y l => simp only [depL]; omega
  | trans _ _ h1 h2 => rw [h1, h2]
mutual
theorem Same.dep : ∀ {a b : Tr}, Same a b → b.dep = a.dep
  | _, _, .leaf i => rfl
  | _, _, .node h1 h2 => by
    have := SameL.dep h2
    simp only [Tr.dep]
    rw [this, depL_perm h1.perm]
theorem SameL.dep : ∀ {a b : List Tr}, SameL a b → depL b = depL a
  | _, _, .nil => rfl
  | _, _, .cons h1 h2 => by simp only [depL, Same.dep h1, SameL.dep h2]
end
theorem listed_loop {k : Nat} {ρ : Type} : ∀ {ps : List Tr} {acc : List Int}, (∀ p ∈ ps, f_listed k p = .ok p.leaves) → acc.length + (leavesL ps).length ≤ 1000000 → (forL ps acc fun part (s1 : List Int) => letR (f_listed k part) fun t2 => extL s1 t2 fun found1 => (Fl.nx found1 : Fl (List Int) ρ)) = .nx (acc ++ leavesL ps)
  | [], acc, _, _ => by simp
  | p :: r, acc, h, hl => by
    rw [forL_cons, h p List.mem_cons_self]
    simp only [leavesL_cons, List.length_append] at hl
    simp only [letR_ok]
    rw [extL_ok (by omega)]
    simp only
    rw [listed_loop (fun q m => h q (List.mem_cons_of_mem _ m)) (by simp; omega)]
    simp
theorem listed_ok : ∀ {k : Nat} {t : Tr}, t.dep + 2 ≤ k → t.leaves.length ≤ 1000000 → f_listed k t = .ok t.leaves := by
  intro k
  induction k with
  | zero => intro t h; omega
  | succ k ih =>
    intro t h hl
    cases t with
    | leaf i => simp [f_listed, is_thing_ok (show 1 ≤ k by omega), Tr.isLeaf, Tr.thing]
    | node w ps =>
      have hp : ∀ p ∈ ps, f_listed k p = .ok p.leaves := fun p m => by
        have := dep_part (w := w) m
        refine ih (by omega) ?_
        have := len_part m
        rw [leaves_node] at hl
        omega
      simp [f_listed, is_thing_ok (show 1 ≤ k by omega), Tr.isLeaf, Tr.parts, listed_loop hp (acc := []) (by simpa using hl)]
theorem least_thing_ok {k : Nat} {t : Tr} (h : t.dep + 3 ≤ k) (hf : t.Form) (hl : t.leaves.length ≤ 1000000) : f_least_thing k t = .ok (tl t) := by
  obtain ⟨k, rfl, h1⟩ := succ_of h
  simp [f_least_thing, listed_ok h1 hl, minI_ok (List.length_pos_iff.mp (leaves_pos t hf)), tl]
theorem has_form_ok : ∀ {k : Nat} {t : Tr}, t.dep + 2 ≤ k → t.Form → f_has_form k t = .ok true := by
  intro k
  induction k with
  | zero => intro t h; omega
  | succ k ih =>
    intro t h hf
    cases t with
    | leaf i => simp [f_has_form, is_thing_ok (show 1 ≤ k by omega), Tr.isLeaf]
    | node w ps =>
      obtain ⟨f1, f2, f3⟩ := Form_node.mp hf
      have hp : mapR (fun part => f_has_form k part) ps = .ok (ps.map fun _ => true) := mapR_ok fun p m => ih (by have := dep_part (w := w) m; omega) (f3 p m)
      have h2 : ¬ (ps.length : Int) < 2 := by omega
      have h3 : w = false → ¬ (ps.length : Int) < 3 := fun e => by have := f2 e; omega
      cases w with
      | true => simp [f_has_form, is_thing_ok (show 1 ≤ k by omega), is_thing1_ok (show 1 ≤ k by omega), Tr.isLeaf, Tr.parts, Tr.word, Tr.len, hp, h2]
      | false => simp [f_has_form, is_thing_ok (show 1 ≤ k by omega), is_thing1_ok (show 1 ≤ k by omega), Tr.isLeaf, Tr.parts, Tr.word, Tr.len, hp, h2, h3]
theorem nodupI_id : ∀ {l : List Int}, l.Nodup → nodupI l = l
  | [], _ => rfl
  | x :: r, h => by
    unfold nodupI
    obtain ⟨h1, h2⟩ := List.nodup_cons.mp h
    rw [if_neg h1, nodupI_id h2]
/-- a tree over so many things -/
structure Over (n : Nat) (t : Tr) : Prop where
  form : t.Form
  perm : t.leaves.Perm (iota 0 n)
theorem Over.nodup {n : Nat} {t : Tr} (h : Over n t) : t.leaves.Nodup := h.perm.nodup_iff.mpr (iota_nodup n 0)
theorem Over.len {n : Nat} {t : Tr} (h : Over n t) : t.leaves.length = n := by rw [h.perm.length_eq, iota_len]
theorem Over.dep {n : Nat} {t : Tr} (h : Over n t) : t.dep < n := by have := dep_lt t h.form; rw [h.len] at this; exact this
theorem Over.pos {n : Nat} {t : Tr} (h : Over n t) : 0 < n := by have := leaves_pos t h.form; rw [h.len] at this; exact this
theorem Over.same {n : Nat} {t t' : Tr} (h : Over n t) (s : Same t t') : Over n t' := ⟨s.form h.form, s.leaves.trans h.perm⟩
theorem Over.norm {n : Nat} {t : Tr} (h : Over n t) : Over n t.norm := h.same (norm_same t)
theorem Over.norm_iff {n : Nat} {a b : Tr} (h : Over n a) : a.norm = b.norm ↔ Same a b := PC.norm_iff h.form h.nodup
theorem things_of_ok {k n : Nat} {t : Tr} (h : Over n t) (hn : n ≤ 24) (hk : 30 ≤ k) : f_things_of k t = .ok (iota 0 n) := by
  obtain ⟨k, rfl, hk⟩ := succ_of hk
  have hd := h.dep
  have hpos := h.pos
  have e : isort t.leaves = iota 0 n := isort_iota.mpr h.perm
  have e0 : atL (iota 0 n) 0 = .ok 0 := by
    have := atL_nat (l := iota 0 n) (i := 0) (a := 0) (by rw [iota_get?, if_pos hpos]; rfl)
    simpa using this
  have e1 : lenSetR (iota 0 n) = .ok (n : Int) := by
    unfold lenSetR
    rw [if_pos (by rw [iota_len]; omega), nodupI_id (iota_nodup n 0), iota_len]
  simp [f_things_of, has_form_ok (show t.dep + 2 ≤ k by omega) h.form, listed_ok (show t.dep + 2 ≤ k by omega) (by rw [h.len]; omega), e, e0, e1, iota_len]
/-! ### the normal form -/
theorem enumL_get {α : Type} : ∀ {l : List α} {k : Int} {i : Nat} {a : α}, l[i]? = some a → (enumL k l)[i]? = some (k + i, a)
  | x :: l, k, 0, a, h => by simp at h; subst h; simp [enumL]
  | x :: l, k, i + 1, a, h => by
    have := enumL_get (l := l) (k := k + 1) (i := i) (by simpa using h)
    simp only [enumL, List.getElem?_cons_succ, this]
    congr 2; omega
theorem enumL_map {α β : Type} {f : α → β} : ∀ {l : List α} {k : Int}, (enumL k l).map (fun p => (f p.2, p.1)) = (l.map f).zip (iota k l.length)
  | [], _ => rfl
  | a :: l, k => by simp [enumL, enumL_map (l := l), iota]
theorem enumL_mem {α : Type} : ∀ {l : List α} {k : Int} {p : Int × α}, p ∈ enumL k l → ∃ i : Nat, p.1 = k + i ∧ l[i]? = some p.2
  | a :: l, k, p, h => by
    simp only [enumL] at h
    rcases List.mem_cons.mp h with rfl | h
    · exact ⟨0, by simp, by simp⟩
    · obtain ⟨i, h1, h2⟩ := enumL_mem h
      exact ⟨i + 1, by omega, by simpa using h2⟩
theorem enumL_snd {α : Type} : ∀ {l : List α} {k : Int}, (enumL k l).map (fun p => p.2) = l
  | [], _ => rfl
  | a :: l, k => by simp [enumL, enumL_snd (l := l)]
theorem leP_trans (a b c : Int × Int) (h : leP a b = true) (h' : leP b c = true) : leP a c = true := by
  simp only [leP, decide_eq_true_eq] at *; omega
theorem leP_total (a b : Int × Int) : (leP a b || leP b a) = true := by
  simp only [leP, Bool.or_eq_true, decide_eq_true_eq]; omega
/-- parts put into the sequence of their numbers -/
theorem sort_parts {ps : List Tr} {f : Tr → Int} : ∃ qs, mapR (fun p1 : Int × Int => atL ps p1.2) (((enumL 0 ps).map fun p => (f p.2, p.1)).mergeSort leP) = .ok qs ∧ qs.Perm ps ∧ qs.Pairwise fun a b => f a ≤ f b := by
  have hp := List.mergeSort_perm ((enumL 0 ps).map fun p => (f p.2, p.1)) leP
  have hs := List.pairwise_mergeSort leP_trans leP_total ((enumL 0 ps).map fun p => (f p.2, p.1))
  generalize ((enumL 0 ps).map fun p => (f p.2, p.1)).mergeSort leP = m at *
  have hm : ∀ p ∈ m, ∃ i : Nat, p.2 = i ∧ ∃ h : i < ps.length, p.1 = f ps[i] := fun p h => by
    obtain ⟨q, hq, rfl⟩ := List.mem_map.mp (hp.mem_iff.mp h)
    obtain ⟨i, h1, h2⟩ := enumL_mem hq
    obtain ⟨h3, h4⟩ := List.getElem?_eq_some_iff.mp h2
    exact ⟨i, by simpa using h1, h3, by rw [h4]⟩
  refine ⟨m.map fun p => ps.getD p.2.toNat (.leaf 0), mapR_ok fun p h => ?_, ?_, ?_⟩
  · obtain ⟨i, h1, h2, h3⟩ := hm p h
    rw [h1, atL_get h2]
    simp [h2]
  · refine (hp.map _).trans ?_
    rw [List.map_map]
    have : (enumL 0 ps).map ((fun p : Int × Int => ps.getD p.2.toNat (.leaf 0)) ∘ fun p : Int × Tr => (f p.2, p.1)) = ps := by
      conv => rhs; rw [← enumL_snd (l := ps) (k := 0)]
      apply List.map_congr_left
      intro p hp
      obtain ⟨i, h1, h2⟩ := enumL_mem hp
      have h1 : p.1 = i := by omega
      simp only [Function.comp, h1, Int.toNat_natCast, List.getD_eq_getElem?_getD, h2, Option.getD_some]
    rw [this]
  · rw [List.pairwise_map]
    refine hs.imp_of_mem fun {a b} ha hb h => ?_
    obtain ⟨i, h1, h2, h3⟩ := hm a ha
    obtain ⟨j, g1, g2, g3⟩ := hm b hb
    simp only [leP, decide_eq_true_eq] at h
    simp only [h1, g1, Int.toNat_natCast, List.getD_eq_getElem?_getD, List.getElem?_eq_getElem h2, List.getElem?_eq_getElem g2, Option.getD_some]
    omega
theorem normalized_ok : ∀ {k : Nat} {t : Tr}, 2 * t.dep + 5 ≤ k → t.Form → t.leaves.Nodup → t.leaves.length ≤ 1000 → f_normalized k t = .ok t.norm := by
  intro k
  induction k with
  | zero => intro t h; omega
  | succ k ih =>
    intro t h hf hn hl
    cases t with
    | leaf i => simp [f_normalized, is_thing_ok (show 1 ≤ k by omega), Tr.isLeaf, Tr.norm]
    | node w ps =>
      obtain ⟨f1, f2, f3⟩ := Form_node.mp hf
      rw [leaves_node] at hn hl
      have hp : mapR (fun part => f_normalized k part) ps = .ok (normL ps) := by
        rw [normL_map]
        exact mapR_ok fun p m => ih (by have := dep_part (w := w) m; omega) (f3 p m) (nodup_part m hn) (by have := len_part m; omega)
      have fn : ∀ p ∈ normL ps, p.Form := fun p m => by
        rw [normL_map] at m
        obtain ⟨q, m', rfl⟩ := List.mem_map.mp m
        exact (norm_same q).form (f3 q m')
      have h3 : SameL ps (normL ps) := by rw [normL_map]; exact SameL.of_forall fun p _ => norm_same p
      have nn : (leavesL (normL ps)).Nodup := h3.leaves.nodup_iff.mpr hn
      have nl : (leavesL (normL ps)).length ≤ 1000 := by rw [h3.leaves.length_eq]; exact hl
      have ti := tl_inj fn nn
      have hd : ∀ p ∈ normL ps, f_least_thing k p = .ok (tl p) := fun p m => by
        rw [normL_map] at m
        obtain ⟨q, m', rfl⟩ := List.mem_map.mp m
        have b := dep_part (w := w) m'
        have e := (norm_same q).leaves.length_eq
        have e2 := (norm_same q).dep
        exact least_thing_ok (by omega) ((norm_same q).form (f3 q m')) (by have := len_part m'; omega)
      have l2 : 2 ≤ (normL ps).length := by rw [normL_map, List.length_map]; exact f1
      cases w with
      | true =>
        have e1 : mapR (fun p : Int × Tr => (f_least_thing k p.2).bind fun t3 => R.ok (t3, p.1)) (enumL 0 (normL ps)) = .ok ((enumL 0 (normL ps)).map fun p => (tl p.2, p.1)) := mapR_ok fun p m => by
          obtain ⟨i, _, h2⟩ := enumL_mem m
          rw [hd p.2 (List.mem_of_getElem? h2)]; rfl
        obtain ⟨qs, e2, e3, e4⟩ := sort_parts (ps := normL ps) (f := tl)
        have e5 : qs = sortT (normL ps) := sort_uniq (e3.trans (sortT_perm _).symm) e4 (sortT_sorted _) fun x hx y hy => ti x (e3.mem_iff.mp hx) y (e3.mem_iff.mp hy)
        subst e5
        simp [f_normalized, is_thing_ok (show 1 ≤ k by omega), Tr.isLeaf, Tr.parts, Tr.word, hp, e1, e2, Tr.norm]
      | false =>
        have hne : normL ps ≠ [] := fun e => by rw [e] at l2; simp at l2
        have h0 : 0 < (normL ps).length := by omega
        have e1 := atL_zero h0
        have e2 := atL_last hne
        have e3 := hd _ (List.getElem_mem h0)
        have e4 := hd _ (List.getLast_mem hne)
        have e5 : flipT (normL ps) = if tl ((normL ps).getLast hne) < tl (normL ps)[0] then (normL ps).reverse else normL ps := by
          unfold flipT
          rw [List.getLast?_eq_some_getLast hne, List.head?_eq_getElem?, List.getElem?_eq_getElem h0]
        by_cases c : tl ((normL ps).getLast hne) < tl (normL ps)[0]
        · simp [f_normalized, is_thing_ok (show 1 ≤ k by omega), Tr.isLeaf, Tr.parts, Tr.word, hp, e1, e2, e3, e4, Tr.norm, e5, c]
        · simp [f_normalized, is_thing_ok (show 1 ≤ k by omega), Tr.isLeaf, Tr.parts, Tr.word, hp, e1, e2, e3, e4, Tr.norm, e5, c]
theorem Over.normalized {k n : Nat} {t : Tr} (h : Over n t) (hn : n ≤ 24) (hk : 60 ≤ k) : f_normalized k t = .ok t.norm := by
  have := h.dep
  exact normalized_ok (by omega) h.form h.nodup (by rw [h.len]; omega)
theorem Over.normal {k n : Nat} {t : Tr} (h : Over n t) (hn : n ≤ 24) (hk : 61 ≤ k) : f_normal k t = .ok t.norm := by
  obtain ⟨k, rfl, hk'⟩ := succ_of hk
  simp [f_normal, things_of_ok h hn (show 30 ≤ k by omega), h.normalized hn hk']
end PC

set_option Elab.async false
set_option linter.all false
set_option maxRecDepth 100000
/-! ML4: the helpers of the laws. -/
namespace PC
open PySem
theorem tmod_ok {i j : Int} (h : 0 < j) : tmod i j = .ok (i % j) := by unfold tmod; rw [if_pos h]
theorem tdiv_ok {i j : Int} (h : 0 < j) (h' : j < 2 ^ 64) : tdiv i j = .ok (i / j) := by
  unfold tdiv; rw [if_pos ⟨h, log2_small (by omega)⟩]
theorem tmul_ok {i j : Int} (h : -(2 ^ 64) < j) (h' : j < 2 ^ 64) : tmul i j = .ok (i * j) := by
  unfold tmul; rw [if_pos (mulOk_r h h')]
theorem tmulL_ok {i j : Int} (h : -(2 ^ 64) < i) (h' : i < 2 ^ 64) : tmul i j = .ok (i * j) := by
  unfold tmul
  rw [if_pos]
  unfold mulOk
  rw [Nat.ble_eq_true_of_le (show i.natAbs ≤ 18446744073709551615 by omega), Bool.true_or, Bool.true_or]
theorem cell_ok {k : Nat} {ns : List Int} {i : Int} (h : 0 ≤ i) (hk : 1 ≤ k) : f_law_cell k ns i = .ok (ns.getD i.toNat 0) := by
  obtain ⟨k, rfl, _⟩ := succ_of hk
  by_cases h1 : i < ns.length
  · have h2 : i.toNat < ns.length := by omega
    have e := atL_int h h2
    simp [f_law_cell, h1, e, h2]
  · have h2 : ns.length ≤ i.toNat := by omega
    simp [f_law_cell, h1, List.getElem?_eq_none h2]
def rich (c : Int) : Int := if 1000000000000000000 ≤ c then c else (c * 48271 + 11) % 2147483647 * 2147483629 + ((c * 48271 + 11) % 2147483647 * 69621 + c / 7 + 5) % 2147483629
theorem tpow_10 : tpow 10 18 = .ok 1000000000000000000 := by rfl
theorem rich_ok {k : Nat} {c : Int} (hk : 1 ≤ k) : f_law_rich k c = .ok (rich c) := by
  obtain ⟨k, rfl, _⟩ := succ_of hk
  unfold rich
  by_cases h1 : 1000000000000000000 ≤ c
  · simp [f_law_rich, tpow_10, h1]
  · simp [f_law_rich, tpow_10, h1, tmod_ok, tdiv_ok, tmul_ok]
def digits (c : Int) : List Int → List Int
  | [] => []
  | s :: r => c % s :: digits (c / s) r
theorem digits_len : ∀ (l : List Int) (c : Int), (digits c l).length = l.length
  | [], c => rfl
  | x :: l, c => by simp [digits, digits_len l]
theorem digits_loop {ρ : Type} : ∀ {l : List Int} {c : Int} {acc : List Int}, (∀ s ∈ l, 0 < s ∧ s < 1000000) → acc.length + l.length ≤ 100000 →
    ∃ c', (forL l (c, acc) fun size (s1 : Int × List Int) => letR (tmod s1.1 size) fun t => appL s1.2 t fun row1 => letR (tdiv s1.1 size) fun c1 => (Fl.nx (c1, row1) : Fl (Int × List Int) ρ)) = .nx (c', acc ++ digits c l)
  | [], c, acc, _, _ => ⟨c, by simp [digits]⟩
  | s :: l, c, acc, h, hl => by
    obtain ⟨h1, h2⟩ := h s List.mem_cons_self
    simp only [List.length_cons] at hl
    obtain ⟨c', e⟩ := digits_loop (ρ := ρ) (l := l) (c := c / s) (acc := acc ++ [c % s]) (fun x m => h x (List.mem_cons_of_mem _ m)) (by simp; omega)
    refine ⟨c', ?_⟩
    rw [forL_cons]
    simp only [tmod_ok h1, tdiv_ok h1 (show s < 2 ^ 64 by omega), letR_ok]
    rw [appL_ok (by omega)]
    simp only [letR_ok, e]
    simp [digits]
theorem digits_ok {k : Nat} {c : Int} {l : List Int} (h : ∀ s ∈ l, 0 < s ∧ s < 1000000) (hl : l.length ≤ 1000) (hk : 1 ≤ k) : f_law_digits k c l = .ok (digits c l) := by
  obtain ⟨k, rfl, _⟩ := succ_of hk
  obtain ⟨c', e⟩ := digits_loop (ρ := List Int) (l := l) (c := c) (acc := []) h (by simp; omega)
  simp [f_law_digits, e]
/-- the i-th digit lies in its range -/
theorem digits_get : ∀ {l : List Int} {c : Int} {i : Nat} {s : Int}, l[i]? = some s → 0 < s → ∃ d, (digits c l)[i]? = some d ∧ 0 ≤ d ∧ d < s
  | x :: l, c, 0, s, h, hs => by
    simp at h; subst h
    exact ⟨c % x, by simp [digits], Int.emod_nonneg _ (by omega), Int.emod_lt_of_pos _ hs⟩
  | x :: l, c, i + 1, s, h, hs => by
    obtain ⟨d, h1, h2⟩ := digits_get (l := l) (c := c / x) (i := i) (by simpa using h) hs
    exact ⟨d, by simpa [digits] using h1, h2⟩
theorem digits_at {l : List Int} {c : Int} {i : Nat} {s : Int} (h : l[i]? = some s) (hs : 0 < s) : ∃ d, atL (digits c l) (i : Int) = .ok d ∧ 0 ≤ d ∧ d < s := by
  obtain ⟨d, h1, h2⟩ := digits_get (c := c) h hs
  exact ⟨d, atL_nat h1, h2⟩
theorem appPopL_ok {α σ ρ : Type} {l m : List α} {z : Int} {k : List α → List α → Fl σ ρ} (h0 : 0 ≤ z) (h1 : z.toNat < l.length) (hl : l.length ≤ 1000000) (hm : m.length ≤ 1000000) : appPopL l m z k = k (l.eraseIdx z.toNat) (m ++ [l[z.toNat]]) := by
  have e1 : seqIndex? z l.length = some z.toNat := by
    have hz0 : ¬ z < 0 := by omega
    simp only [seqIndex?, hz0, if_false]
    rw [if_pos]
    simp
    omega
  unfold appPopL
  rw [e1]
  simp only [List.getElem?_eq_getElem h1]
  rw [if_pos ⟨Nat.ble_eq_true_of_le (by omega), by show m.length < 10000000; omega⟩]
/-- an order of n things -/
def Ord (n : Nat) (o : List Int) : Prop := o.Perm (iota 0 n)
theorem order_ok {k n : Nat} {c : Int} (hn : n ≤ 1000) (hk : 2 ≤ k) : ∃ o, f_law_order k c (n : Int) = .ok o ∧ Ord n o := by
  obtain ⟨k, rfl, hk1⟩ := succ_of hk
  simp only [f_law_order, rng0 (show n ≤ 1000000 by omega), bnd_ok, letR_ok, rich_ok hk1]
  refine seq_inv (G := fun x => ∃ o, Fl.run x .st = .ok o ∧ Ord n o) (fun i s => s.1.length = n - i ∧ i ≤ n ∧ (s.2.2 ++ s.1).Perm (iota 0 n)) ⟨by rw [iota_len]; omega, by omega, by simp⟩ (fun i hi s ⟨h1, h2, h3⟩ => ?_) fun s ⟨h1, _, h3⟩ => ?_
  · obtain ⟨left, r, o⟩ := s
    simp only at h1 h3 ⊢
    rw [iota_getE hi]
    rw [iota_len] at hi
    have hlen := h3.length_eq
    rw [List.length_append, iota_len] at hlen
    have p1 : 0 < (n : Int) - (0 + (i : Int)) := by omega
    have hz0 : 0 ≤ r % ((n : Int) - (0 + i)) := Int.emod_nonneg _ (by omega)
    have hz1 : r % ((n : Int) - (0 + i)) < (n : Int) - (0 + i) := Int.emod_lt_of_pos _ p1
    have hzl : (r % ((n : Int) - (0 + i))).toNat < left.length := by omega
    simp only [tmod_ok p1, tdiv_ok p1 (show (n : Int) - (0 + i) < 2 ^ 64 by omega), letR_ok, appPopL_ok hz0 hzl (show left.length ≤ 1000000 by omega) (show o.length ≤ 1000000 by omega)]
    have p2 : (left[(r % ((n : Int) - (0 + i))).toNat] :: left.eraseIdx (r % ((n : Int) - (0 + i))).toNat).Perm left := eraseIdx_perm _ _ hzl
    have p3 : ((o ++ [left[(r % ((n : Int) - (0 + i))).toNat]]) ++ left.eraseIdx (r % ((n : Int) - (0 + i))).toNat).Perm (iota 0 n) := by
      rw [List.append_assoc]
      exact (p2.append_left o).trans h3
    have p4 : (left.eraseIdx (r % ((n : Int) - (0 + i))).toNat).length = n - (i + 1) := by
      rw [List.length_eraseIdx_of_lt hzl]; omega
    by_cases hz : r / ((n : Int) - (0 + i)) = 0
    · exact ⟨_, by simp only [hz, decide_true, cnd_ok, if_true, seq_nx]; rfl, p4, by omega, p3⟩
    · exact ⟨_, by simp only [hz, decide_false, cnd_ok, Bool.false_eq_true, if_false, seq_nx]; rfl, p4, by omega, p3⟩
  · obtain ⟨left, r, o⟩ := s
    simp only [iota_len, Nat.sub_self] at h1 h3
    have hl0 : left = [] := List.length_eq_zero_iff.mp h1
    subst hl0
    rw [List.append_nil] at h3
    exact ⟨o, rfl, h3⟩
theorem law_things_loop {k : Nat} {ρ : Type} : ∀ {ps : List Tr} {acc : List Int}, (∀ p ∈ ps, f_law_things k p = .ok p.leaves) → acc.length + (leavesL ps).length ≤ 1000000 → (forL ps acc fun part (s2 : List Int) => letR ((f_law_things k part).bind fun t2 => catL s2 t2) fun found1 => (Fl.nx found1 : Fl (List Int) ρ)) = .nx (acc ++ leavesL ps)
  | [], acc, _, _ => by simp
  | p :: r, acc, h, hl => by
    rw [forL_cons, h p List.mem_cons_self]
    simp only [leavesL_cons, List.length_append] at hl
    simp only [bnd_ok]
    rw [catL_ok (by omega)]
    simp only [letR_ok]
    rw [law_things_loop (fun q m => h q (List.mem_cons_of_mem _ m)) (by simp; omega)]
    simp
theorem law_things_ok : ∀ {k : Nat} {t : Tr}, t.dep + 1 ≤ k → t.leaves.length ≤ 1000000 → f_law_things k t = .ok t.leaves := by
  intro k
  induction k with
  | zero => intro t h; omega
  | succ k ih =>
    intro t h hl
    cases t with
    | leaf i => simp [f_law_things, Tr.isLeaf, Tr.thing]
    | node w ps =>
      have hp : ∀ p ∈ ps, f_law_things k p = .ok p.leaves := fun p m => by
        have := dep_part (w := w) m
        refine ih (by omega) ?_
        have := len_part m
        rw [leaves_node] at hl
        omega
      simp [f_law_things, Tr.isLeaf, Tr.parts, law_things_loop hp (acc := []) (by simpa using hl)]
theorem Over.things {k n : Nat} {t : Tr} (h : Over n t) (hn : n ≤ 24) (hk : 24 ≤ k) : f_law_things k t = .ok t.leaves := law_things_ok (by have := h.dep; omega) (by rw [h.len]; omega)
/-- shuffled trees -/
theorem shuffled_ok : ∀ {k : Nat} {t : Tr} {c : Int}, t.dep + 2 ≤ k → t.Form → t.leaves.length ≤ 1000 → ∃ t', f_law_shuffled k t c = .ok t' ∧ Same t t' := by
  intro k
  induction k with
  | zero => intro t c h; omega
  | succ k ih =>
    intro t c h hf hl
    cases t with
    | leaf i => exact ⟨.leaf i, by simp [f_law_shuffled, Tr.isLeaf], .leaf i⟩
    | node w ps =>
      obtain ⟨f1, f2, f3⟩ := Form_node.mp hf
      rw [leaves_node] at hl
      have hpl : ps.length ≤ 1000 := by
        match ps, f1 with
        | p :: r, _ =>
          have := leavesL_len (ps := p :: r) List.mem_cons_self fun q m => leaves_pos q (f3 q m)
          have := leaves_pos p (f3 p List.mem_cons_self)
          omega
      have er := rich_ok (k := k) (c := c) (by omega)
      simp only [f_law_shuffled, Tr.isLeaf, cnd_ok, Bool.false_eq_true, if_false, letR_ok, er, Tr.parts, bnd_ok, Tr.word]
      refine seq_inv (G := fun x => ∃ t', Fl.run x .st = .ok t' ∧ Same (.node w ps) t') (fun i s => s.1.length = i ∧ ∃ qs, (if w then qs.Perm (ps.take i) else qs = ps.take i) ∧ SameL qs s.1) ⟨rfl, [], by cases w <;> simp, .nil⟩ (fun i hi s ⟨h1, qs, h2, h3⟩ => ?_) fun s ⟨h1, qs, h2, h3⟩ => ?_
      · obtain ⟨m, r⟩ := s
        simp only at h1 h3 ⊢
        obtain ⟨t', e1, e2⟩ := ih (t := ps[i]) (c := r / 3 + 5) (by have := dep_part (w := w) (List.getElem_mem hi); omega) (f3 _ (List.getElem_mem hi)) (by have := len_part (List.getElem_mem hi); omega)
        have hlen := h3.length
        have et : ps.take (i + 1) = ps.take i ++ [ps[i]] := by rw [List.take_succ, List.getElem?_eq_getElem hi]; rfl
        have d3 := tdiv_ok (i := r) (show (0 : Int) < 3 by decide) (by decide)
        have d7 := tdiv_ok (i := r) (show (0 : Int) < 7 by decide) (by decide)
        cases w with
        | true =>
          have p1 : 0 < (m.length : Int) + 1 := by omega
          have z0 : 0 ≤ r % ((m.length : Int) + 1) := Int.emod_nonneg _ (by omega)
          have z1 : r % ((m.length : Int) + 1) < (m.length : Int) + 1 := Int.emod_lt_of_pos _ p1
          refine ⟨(m.take (r % ((m.length : Int) + 1)).toNat ++ t' :: m.drop (r % ((m.length : Int) + 1)).toNat, r / 7 + 99), ?_, ?_, ?_⟩
          · simp only [d3, bnd_ok, e1, letR_ok, if_true, tmod_ok p1]
            rw [insL_ok z0 (by omega) (by omega)]
            simp only [seq_nx, d7, bnd_ok, letR_ok]
          · simp only [List.length_append, List.length_take, List.length_cons, List.length_drop]; omega
          · simp only [if_true] at h2 ⊢
            have hz : (m.take (r % ((m.length : Int) + 1)).toNat ++ t' :: m.drop (r % ((m.length : Int) + 1)).toNat).Perm (m ++ [t']) := by
              refine List.perm_middle.trans ?_
              rw [List.take_append_drop]
              exact (List.perm_append_singleton t' m).symm
            have h4 : SameL (qs ++ [ps[i]]) (m ++ [t']) := h3.append (.cons e2 .nil)
            obtain ⟨d, p, q⟩ := h4.perm_r hz.symm
            exact ⟨d, by rw [et]; exact p.symm.trans (h2.append_right _), q⟩
        | false =>
          refine ⟨(m ++ [t'], r / 7 + 99), ?_, by simp; omega, ?_⟩
          · simp only [d3, bnd_ok, e1, letR_ok, Bool.false_eq_true, if_false]
            rw [appL_ok (by omega)]
            simp only [seq_nx, d7, bnd_ok, letR_ok]
          · simp only [Bool.false_eq_true, if_false] at h2 ⊢
            exact ⟨qs ++ [ps[i]], by rw [et, h2], h3.append (.cons e2 .nil)⟩
      · obtain ⟨m, r⟩ := s
        rw [List.take_length] at h2
        simp only at h1 h3
        cases w with
        | true =>
          simp only [if_true] at h2
          exact ⟨.node true m, by simp, .node (w := true) h2 h3⟩
        | false =>
          simp only [Bool.false_eq_true, if_false] at h2
          subst h2
          have e2 := tmod_ok (i := c) (show (0 : Int) < 2 by decide)
          by_cases hc : c % 2 = 1
          · exact ⟨.node false m.reverse, by simp [e2, hc], .node (w := false) (.inr rfl) h3.reverse⟩
          · exact ⟨.node false m, by simp [e2, hc], .node (w := false) (.inl rfl) h3⟩
end PC

set_option Elab.async false
set_option linter.all false
set_option maxRecDepth 100000
/-! ML5: drawn trees, normal trees judged. -/
namespace PC
open PySem
theorem leavesL_leaf : ∀ l : List Int, leavesL (l.map Tr.leaf) = l
  | [] => by simp
  | x :: r => by simp [leavesL_leaf r]
/-- the parts of a tree under way -/
structure Parts (n : Nat) (ps : List Tr) : Prop where
  form : ∀ p ∈ ps, p.Form
  perm : (leavesL ps).Perm (iota 0 n)
theorem Parts.len {n : Nat} {ps : List Tr} (h : Parts n ps) : ps.length ≤ n := by
  have e := h.perm.length_eq
  rw [iota_len] at e
  cases ps with
  | nil => simp
  | cons p r =>
    have a := leavesL_len (ps := p :: r) List.mem_cons_self fun q m => leaves_pos q (h.form q m)
    have b := leaves_pos p (h.form p List.mem_cons_self)
    omega
theorem Parts.pos {n : Nat} {ps : List Tr} (h : Parts n ps) (hn : 0 < n) : 0 < ps.length := by
  cases ps with
  | nil =>
    have e := h.perm.length_eq
    rw [iota_len] at e
    simp at e; omega
  | cons p r => simp
/-- a stretch of the parts is put together -/
theorem Parts.join {n : Nat} {ps : List Tr} {a b : Nat} {w : Bool} (h : Parts n ps) (hab : a ≤ b) (hc : 1 < ((ps.take b).drop a).length) (hw : w = false → 2 < ((ps.take b).drop a).length) : Parts n (ps.take a ++ [.node w ((ps.take b).drop a)] ++ ps.drop b) := by
  have e : ps.take a ++ ((ps.take b).drop a ++ ps.drop b) = ps := by
    rw [← List.append_assoc]
    have : ps.take a ++ (ps.take b).drop a = ps.take b := by
      have h1 := List.take_append_drop a (ps.take b)
      rw [List.take_take, Nat.min_eq_left hab] at h1
      exact h1
    rw [this, List.take_append_drop]
  refine ⟨fun p m => ?_, ?_⟩
  · simp only [List.mem_append, List.mem_singleton] at m
    rcases m with (m | m) | m
    · exact h.form p (List.mem_of_mem_take m)
    · subst m
      exact Form_node.mpr ⟨hc, fun q => hw q, fun q m => h.form q (List.mem_of_mem_take (List.mem_of_mem_drop m))⟩
    · exact h.form p (List.mem_of_mem_drop m)
  · have e2 : leavesL (ps.take a ++ [.node w ((ps.take b).drop a)] ++ ps.drop b) = leavesL ps := by
      conv => rhs; rw [← e]
      simp only [leavesL_append, leavesL_cons, leavesL_nil, leaves_node, List.append_nil, List.append_assoc]
    rw [e2]; exact h.perm
theorem tree_ok {k n : Nat} {c : Int} (h0 : 0 < n) (hn : n ≤ 24) (hk : 3 ≤ k) : ∃ t, f_law_tree k c (n : Int) = .ok t ∧ Over n t := by
  obtain ⟨k, rfl, hk1⟩ := succ_of hk
  obtain ⟨o, eo, ho⟩ := order_ok (k := k) (c := c) (n := n) (by omega) hk1
  have d3 := tdiv_ok (i := c) (show (0 : Int) < 3 by decide) (by decide)
  simp only [f_law_tree, eo, bnd_ok, letR_ok, d3, rich_ok (show 1 ≤ k by omega), rng_ok (show (-1000000 : Int) ≤ 0 by decide) (by decide) (show (-1000000 : Int) ≤ 30 by decide) (by decide)]
  refine seq_brk (G := fun x => ∃ t, Fl.run x .st = .ok t ∧ Over n t) (fun i s => Parts n s.1) (fun s => Parts n s.1) ⟨fun p m => ?_, by rw [leavesL_leaf]; exact ho⟩ (fun i hi s h => ?_) fun s h => ?_
  · obtain ⟨x, _, rfl⟩ := List.mem_map.mp m
    simp [Tr.Form]
  · obtain ⟨ps, r⟩ := s
    simp only at h ⊢
    have hlen := h.len
    have hi30 : i < 30 := by rw [iota_len] at hi; simpa using hi
    rw [iota_getE hi]
    by_cases hs : (ps.length : Int) < 2
    · right
      exact ⟨(ps, r), by simp only [hs, decide_true, cnd_ok, if_true], h⟩
    · left
      have m4 := tmod_ok (i := r) (show (0 : Int) < 4 by decide)
      have d1024 := tdiv_ok (i := r) (show (0 : Int) < 1024 by decide) (by decide)
      have m8 := tmod_ok (i := r / 1024) (show (0 : Int) < 8 by decide)
      have d4 := tdiv_ok (i := r) (show (0 : Int) < 4 by decide) (by decide)
      have pl : 0 < (ps.length : Int) := by omega
      have ml := tmod_ok (i := r / 4) pl
      have d64 := tdiv_ok (i := r) (show (0 : Int) < 64 by decide) (by decide)
      have m2 := tmod_ok (i := r / 64) (show (0 : Int) < 2 by decide)
      have d5 := tdiv_ok (i := r) (show (0 : Int) < 5 by decide) (by decide)
      have mi := tmul_ok (i := 1000003) (j := 0 + (i : Int)) (by omega) (by omega)
      have z0 : 0 ≤ r / 4 % (ps.length : Int) := Int.emod_nonneg _ (by omega)
      have z1 : r / 4 % (ps.length : Int) < ps.length := Int.emod_lt_of_pos _ pl
      have s0 : 0 ≤ r % 4 := Int.emod_nonneg _ (by omega)
      simp only [hs, decide_false, cnd_ok, Bool.false_eq_true, if_false, m4, d1024, m8, d4, ml, d64, m2, d5, mi, bnd_ok, letR_ok]
      generalize r / 4 % (ps.length : Int) = at_ at *
      have key : ∀ size : Int, 0 ≤ size → ∃ s' : List Tr × Int, (Fl.seq (cnd (.ok (decide (1 < ((cutL ps (some at_) (some (at_ + size))).length : Int))))
        (Fl.seq (cnd (if (decide (2 < ((cutL ps (some at_) (some (at_ + size))).length : Int))) then .ok (decide (r / 64 % 2 = 1)) else .ok false)
          (Fl.nx false)
          (Fl.nx true)) fun (s5 : Bool) =>
        letR (((catL (cutL ps none (some at_)) [(Tr.node s5 (cutL ps (some at_) (some (at_ + size))))])).bind fun t12 => (catL t12 (cutL ps (some (at_ + size)) none))) fun parts1 =>
        .nx (parts1))
        (.nx (ps))) fun (s4 : (List Tr)) => (.nx (s4, r / 5 + 1000003 * (0 + (i : Int)) + 17) : Fl (List Tr × Int) Tr)) = .nx s' ∧ Parts n s'.1 := by
        intro size hsz
        rw [cut_mid z0 (by omega), cut_take z0, cut_drop (show 0 ≤ at_ + size by omega)]
        have hab : at_.toNat ≤ (at_ + size).toNat := by omega
        by_cases c1 : 1 < ((ps.take (at_ + size).toNat).drop at_.toNat).length
        · have c1' : (1 : Int) < ((ps.take (at_ + size).toNat).drop at_.toNat).length := by omega
          have cat : ∀ w, (catL (ps.take at_.toNat) [Tr.node w ((ps.take (at_ + size).toNat).drop at_.toNat)]).bind (fun t12 => catL t12 (ps.drop (at_ + size).toNat)) = .ok (ps.take at_.toNat ++ [Tr.node w ((ps.take (at_ + size).toNat).drop at_.toNat)] ++ ps.drop (at_ + size).toNat) := by
            intro w
            rw [catL_ok (by simp; omega), bnd_ok, catL_ok (by simp; omega)]
          by_cases c2 : (2 : Int) < ((ps.take (at_ + size).toNat).drop at_.toNat).length ∧ r / 64 % 2 = 1
          · refine ⟨(_, r / 5 + 1000003 * (0 + (i : Int)) + 17), ?_, h.join (w := false) hab c1 fun _ => by omega⟩
            simp only [c1', c2.1, c2.2, decide_true, cnd_ok, if_true, seq_nx, cat, letR_ok]
          · refine ⟨(_, r / 5 + 1000003 * (0 + (i : Int)) + 17), ?_, h.join (w := true) hab c1 fun e => by cases e⟩
            by_cases c3 : (2 : Int) < ((ps.take (at_ + size).toNat).drop at_.toNat).length
            · have c4 : ¬ r / 64 % 2 = 1 := fun e => c2 ⟨c3, e⟩
              simp only [c1', c3, c4, decide_true, decide_false, cnd_ok, if_true, Bool.false_eq_true, if_false, seq_nx, cat, letR_ok]
            · simp only [c1', c3, decide_true, decide_false, cnd_ok, if_true, Bool.false_eq_true, if_false, seq_nx, cat, letR_ok]
        · have c1' : ¬ (1 : Int) < ((ps.take (at_ + size).toNat).drop at_.toNat).length := by omega
          exact ⟨(ps, r / 5 + 1000003 * (0 + (i : Int)) + 17), by simp only [c1', decide_false, cnd_ok, Bool.false_eq_true, if_false, seq_nx], h⟩
      by_cases c5 : r / 1024 % 8 = 5
      · simp only [c5, decide_true, if_true, seq_nx]
        exact key 24 (by omega)
      · simp only [c5, decide_false, Bool.false_eq_true, if_false, seq_nx]
        exact key (2 + r % 4) (by omega)
  · obtain ⟨ps, r⟩ := s
    have h : Parts n ps := by rcases h with h | h <;> exact h
    have hp := h.pos h0
    simp only
    by_cases c : 1 < (ps.length : Int)
    · refine ⟨.node true ps, ?_, Form_node.mpr ⟨by omega, nofun, h.form⟩, by rw [leaves_node]; exact h.perm⟩
      simp only [c, decide_true, cnd_ok, if_true, letR_ok, seq_nx, atL_zero (show 0 < [Tr.node true ps].length by simp), List.getElem_cons_zero, run_rt]
    · refine ⟨ps[0], ?_, h.form _ (List.getElem_mem hp), ?_⟩
      · simp only [c, decide_false, cnd_ok, Bool.false_eq_true, if_false, letR_ok, seq_nx, atL_zero hp, run_rt]
      · match ps, hp with
        | [p], _ => simpa using h.perm
        | p :: q :: r, _ => simp at c; omega
/-! ### judged -/
theorem is_normal_ok : ∀ {k : Nat} {t : Tr}, t.dep + 2 ≤ k → t.dep ≤ 31 → t.Form → t.Norm → t.leaves.Nodup → t.leaves.length ≤ 1000 → f_law_is_normal k t = .ok true := by
  intro k
  induction k with
  | zero => intro t h; omega
  | succ k ih =>
    intro t h hd hf hN hn hl
    cases t with
    | leaf i => simp [f_law_is_normal, Tr.isLeaf, Tr.isBool]
    | node w ps =>
      obtain ⟨f1, f2, f3⟩ := Form_node.mp hf
      rw [leaves_node] at hn hl
      have hNL : ∀ p ∈ ps, p.Norm := by cases w <;> (simp only [Tr.Norm] at hN; exact NormL_iff.mp hN.1)
      have hp : compR (fun part => (f_law_is_normal k part).bind fun t14 => R.ok (!t14)) (fun part => R.ok part) ps = .ok [] := by
        rw [compR_ok (q := fun _ => false) (h := fun p => p)]
        · simp
        · intro p m
          have a := dep_part (w := w) m
          rw [ih (by omega) (by omega) (f3 p m) (hNL p m) (nodup_part m hn) (by have := len_part m; omega)]; rfl
        · intro p m e; cases e
      have hm : mapR (fun part1 => (f_law_things k part1).bind fun t19 => minI t19) ps = .ok (ps.map tl) := mapR_ok fun p m => by
        have a := dep_part (w := w) m
        rw [law_things_ok (by omega) (by have := len_part m; omega), bnd_ok, minI_ok (List.length_pos_iff.mp (leaves_pos p (f3 p m)))]
        rfl
      have e0 : neNil eTr ([] : List Tr) = .ok false := by rw [neNil_tr (fun t h => by cases h)]; rfl
      cases w with
      | true =>
        have h2 : ¬ (ps.length : Int) < 2 := by omega
        simp only [Tr.Norm] at hN
        have e1 : isort (ps.map tl) = ps.map tl := isort_id (List.pairwise_map.mpr hN.2)
        simp [f_law_is_normal, Tr.isLeaf, Tr.len, Tr.word, Tr.parts, h2, hp, e0, hm, e1]
      | false =>
        have h2 : ¬ (ps.length : Int) < 3 := by have := f2 rfl; omega
        simp only [Tr.Norm] at hN
        have hne : ps ≠ [] := fun e => by rw [e] at f1; simp at f1
        have h0 : 0 < ps.length := by omega
        have hne' : ps.map tl ≠ [] := by simpa using hne
        have h0' : 0 < (ps.map tl).length := by simpa using h0
        have e1 := hN.2 ps[0] (ps.getLast hne) (by rw [List.head?_eq_getElem?, List.getElem?_eq_getElem h0]) (List.getLast?_eq_some_getLast hne)
        have e2 : tl ps[0] ≠ tl (ps.getLast hne) := fun e => by
          have q := tl_inj f3 hn _ (List.getElem_mem h0) _ (List.getLast_mem hne) e
          exact head_ne_last f1 f3 hn (by rw [List.head?_eq_getElem?, List.getElem?_eq_getElem h0, List.getLast?_eq_some_getLast hne, q])
        have e3 : tl ps[0] < tl (ps.getLast hne) := by omega
        have e4 : atL (ps.map tl) 0 = .ok (tl ps[0]) := by rw [atL_zero h0']; simp
        have e5 : atL (ps.map tl) (-1) = .ok (tl (ps.getLast hne)) := by rw [atL_last hne']; simp
        simp [f_law_is_normal, Tr.isLeaf, Tr.len, Tr.word, Tr.parts, h2, hp, e0, hm, e3, e4, e5]
theorem Over.is_tree {k n : Nat} {t : Tr} (h : Over n t) (hN : t.Norm) (hn : n ≤ 24) (hk : 40 ≤ k) : f_law_is_tree k t (n : Int) = .ok true := by
  obtain ⟨k, rfl, hk'⟩ := succ_of hk
  have hd := h.dep
  have e1 := is_normal_ok (k := k) (t := t) (by omega) (by omega) h.form hN h.nodup (by rw [h.len]; omega)
  have e2 := h.things hn (show 24 ≤ k by omega)
  simp [f_law_is_tree, e1, e2, rng0 (show n ≤ 1000000 by omega), isort_iota.mpr h.perm]
theorem is_size_ok {k : Nat} {n : Int} (hk : 1 ≤ k) : f_is_size k n = .ok (decide (1 ≤ n ∧ n ≤ 24)) := by
  obtain ⟨k, rfl, _⟩ := succ_of hk
  simp [f_is_size]
theorem check_things_ok {k n : Nat} (h0 : 0 < n) (hn : n ≤ 24) (hk : 2 ≤ k) : f_check_things k (n : Int) = .ok (n : Int) := by
  obtain ⟨k, rfl, hk'⟩ := succ_of hk
  have : (1 : Int) ≤ n := by omega
  have h2 : (n : Int) ≤ 24 := by omega
  simp [f_check_things, is_size_ok hk', this, h2]
theorem make_any_ok {k : Nat} {ps : List Tr} (hk : 1 ≤ k) (h : 2 ≤ ps.length) : f_make_any k ps = .ok (.node true ps) := by
  obtain ⟨k, rfl, _⟩ := succ_of hk
  have : ¬ (ps.length : Int) = 1 := by omega
  simp [f_make_any, this]
theorem make_any_one {k : Nat} {p : Tr} (hk : 1 ≤ k) : f_make_any k [p] = .ok p := by
  obtain ⟨k, rfl, _⟩ := succ_of hk
  simp [f_make_any, atL_zero (show 0 < [p].length by simp)]
/-- the tree of all orders -/
def plainT (n : Nat) : Tr := if n = 1 then .leaf 0 else .node true ((iota 0 n).map Tr.leaf)
theorem plain_ok {k n : Nat} (h0 : 0 < n) (hn : n ≤ 24) (hk : 3 ≤ k) : f_plain_tree k (n : Int) = .ok (plainT n) := by
  obtain ⟨k, rfl, hk'⟩ := succ_of hk
  have e1 := check_things_ok (k := k) h0 hn hk'
  unfold plainT
  by_cases c : n = 1
  · subst c
    have e2 : f_make_any k [Tr.leaf 0] = .ok (.leaf 0) := make_any_one (by omega)
    have e3 : rng 0 1 = .ok [0] := rng0 (n := 1) (by omega)
    simp at e1
    simp [f_plain_tree, e1, e2, e3]
  · have e2 : f_make_any k ((iota 0 n).map Tr.leaf) = .ok (.node true ((iota 0 n).map Tr.leaf)) := make_any_ok (by omega) (by rw [List.length_map, iota_len]; omega)
    simp [f_plain_tree, e1, e2, rng0 (show n ≤ 1000000 by omega), c]
theorem plain_over {n : Nat} (h0 : 0 < n) : Over n (plainT n) := by
  unfold plainT
  by_cases c : n = 1
  · subst c
    rw [if_pos rfl]
    exact ⟨by simp [Tr.Form], by simp [iota]⟩
  · rw [if_neg c]
    refine ⟨Form_node.mpr ⟨by rw [List.length_map, iota_len]; omega, nofun, fun p m => ?_⟩, by rw [leaves_node, leavesL_leaf]⟩
    obtain ⟨x, _, rfl⟩ := List.mem_map.mp m
    simp [Tr.Form]
end PC

set_option Elab.async false
set_option linter.all false
set_option maxRecDepth 100000
/-! ML6: the orders that a tree tells; sets that stand together. -/
namespace PC
open PySem
/-- the tree tells the order -/
def Told (t : Tr) (o : List Int) : Prop := ∃ t', Same t t' ∧ t'.leaves = o
/-- one told order of each tree, one after the other -/
def TS (L : List Tr) (o : List Int) : Prop := ∃ L', SameL L L' ∧ leavesL L' = o
theorem told_leaf {i : Int} {o : List Int} : Told (.leaf i) o ↔ o = [i] := by
  constructor
  · rintro ⟨t', h, rfl⟩
    cases h; simp
  · rintro rfl; exact ⟨_, .leaf i, by simp⟩
theorem told_node {w : Bool} {ps : List Tr} {o : List Int} : Told (.node w ps) o ↔ ∃ qs, Arr w ps qs ∧ TS qs o := by
  constructor
  · rintro ⟨t', h, rfl⟩
    cases h with
    | node h1 h2 => exact ⟨_, h1, _, h2, by simp⟩
  · rintro ⟨qs, h1, L', h2, rfl⟩
    exact ⟨_, .node h1 h2, by simp⟩
theorem TS_nil {o : List Int} : TS [] o ↔ o = [] := by
  constructor
  · rintro ⟨t', h, rfl⟩
    cases h; simp
  · rintro rfl; exact ⟨_, .nil, by simp⟩
theorem TS_cons {p : Tr} {r : List Tr} {o : List Int} : TS (p :: r) o ↔ ∃ a b, Told p a ∧ TS r b ∧ o = a ++ b := by
  constructor
  · rintro ⟨t', h, rfl⟩
    cases h with
    | cons h1 h2 => exact ⟨_, _, ⟨_, h1, rfl⟩, ⟨_, h2, rfl⟩, by simp⟩
  · rintro ⟨a, b, ⟨t', h1, rfl⟩, ⟨L', h2, rfl⟩, rfl⟩
    exact ⟨_, .cons h1 h2, by simp⟩
theorem TS_append {A B : List Tr} {o : List Int} : TS (A ++ B) o ↔ ∃ a b, TS A a ∧ TS B b ∧ o = a ++ b := by
  induction A generalizing o with
  | nil =>
    simp only [List.nil_append, TS_nil]
    constructor
    · intro h; exact ⟨[], o, rfl, h, rfl⟩
    · rintro ⟨a, b, rfl, h, rfl⟩; exact h
  | cons p r ih =>
    simp only [List.cons_append, TS_cons, ih]
    constructor
    · rintro ⟨a, b, h1, ⟨c, d, h2, h3, rfl⟩, rfl⟩
      exact ⟨a ++ c, d, ⟨a, c, h1, h2, rfl⟩, h3, by simp⟩
    · rintro ⟨a, b, ⟨c, d, h1, h2, rfl⟩, h3, rfl⟩
      exact ⟨c, d ++ b, h1, ⟨d, b, h2, h3, rfl⟩, by simp⟩
theorem TS_single {p : Tr} {o : List Int} : TS [p] o ↔ Told p o := by
  simp only [TS_cons, TS_nil]
  constructor
  · rintro ⟨a, b, h, rfl, rfl⟩; simpa using h
  · intro h; exact ⟨o, [], h, rfl, by simp⟩
theorem Told.perm {t : Tr} {o : List Int} (h : Told t o) : o.Perm t.leaves := by
  obtain ⟨t', h, rfl⟩ := h
  exact h.leaves
theorem TS.perm {L : List Tr} {o : List Int} (h : TS L o) : o.Perm (leavesL L) := by
  obtain ⟨t', h, rfl⟩ := h
  exact h.leaves
theorem TS_rev_of {L : List Tr} {o : List Int} (h : TS L o) (hr : ∀ p ∈ L, ∀ o, Told p o → Told p o.reverse) : TS L.reverse o.reverse := by
  induction L generalizing o with
  | nil => rw [TS_nil] at h; subst h; exact TS_nil.mpr rfl
  | cons p r ih =>
    obtain ⟨a, b, h1, h2, rfl⟩ := TS_cons.mp h
    rw [List.reverse_cons, List.reverse_append]
    exact TS_append.mpr ⟨_, _, ih h2 fun q m => hr q (List.mem_cons_of_mem _ m), TS_single.mpr (hr p List.mem_cons_self a h1), rfl⟩
theorem Told.rev {t : Tr} : ∀ {o : List Int}, Told t o → Told t o.reverse := by
  induction t using Tr.ind with
  | hl i =>
    intro o h
    rw [told_leaf] at h
    subst h
    exact told_leaf.mpr rfl
  | hn w ps ih =>
    intro o h
    obtain ⟨qs, h1, h2⟩ := told_node.mp h
    refine told_node.mpr ⟨qs.reverse, ?_, TS_rev_of h2 fun p m o => ih p (h1.perm.mem_iff.mp m)⟩
    cases w with
    | true => exact (List.reverse_perm qs).trans h1
    | false =>
      rcases h1 with rfl | rfl
      · exact .inr rfl
      · exact .inl (by simp)
theorem TS.rev {L : List Tr} {o : List Int} (h : TS L o) : TS L.reverse o.reverse := TS_rev_of h fun p _ o => Told.rev
theorem TS_reverse {L : List Tr} {o : List Int} : TS L.reverse o ↔ TS L o.reverse := by
  constructor
  · intro h; simpa using h.rev
  · intro h; simpa using h.rev
theorem Told.same {t t' : Tr} {o : List Int} (s : Same t t') (h : Told t' o) : Told t o := by
  obtain ⟨u, h, rfl⟩ := h
  exact ⟨u, s.trans h, rfl⟩
theorem told_same {t t' : Tr} {o : List Int} (s : Same t t') : Told t o ↔ Told t' o := ⟨fun h => h.same s.symm, fun h => h.same s⟩
theorem told_norm {t : Tr} {o : List Int} : Told t.norm o ↔ Told t o := (told_same (norm_same t)).symm
theorem told_self (t : Tr) : Told t t.leaves := ⟨t, .refl t, rfl⟩
/-! ### the made trees -/
def mkAny : List Tr → Tr
  | [p] => p
  | L => .node true L
def mkRow (L : List Tr) : Tr := if L.length < 3 then mkAny L else .node false L
theorem told_mkAny {L : List Tr} {o : List Int} (h : L ≠ []) : Told (mkAny L) o ↔ ∃ qs, qs.Perm L ∧ TS qs o := by
  match L, h with
  | [p], _ =>
    show Told p o ↔ _
    constructor
    · intro h; exact ⟨[p], .refl _, TS_single.mpr h⟩
    · rintro ⟨qs, h1, h2⟩
      rw [List.perm_singleton] at h1
      subst h1
      exact TS_single.mp h2
  | p :: q :: r, _ => exact told_node (w := true)
theorem told_mkRow {L : List Tr} {o : List Int} (h : 2 ≤ L.length) : Told (mkRow L) o ↔ TS L o ∨ TS L o.reverse := by
  unfold mkRow
  by_cases c : L.length < 3
  · rw [if_pos c]
    match L, h, c with
    | [p, q], _, _ =>
      rw [told_mkAny (by simp)]
      constructor
      · rintro ⟨qs, h1, h2⟩
        have : qs = [p, q] ∨ qs = [q, p] := by
          have hl := h1.length_eq
          match qs, hl with
          | [a, b], _ =>
            have := h1.mem_iff (a := a)
            have ha : a = p ∨ a = q := by simpa using this
            rcases ha with rfl | rfl
            · left
              have := (List.perm_cons a).mp h1
              rw [List.perm_singleton] at this
              rw [this]
            · right
              have h3 : [a, b].Perm [a, p] := h1.trans (.swap _ _ _)
              have := (List.perm_cons a).mp h3
              rw [List.perm_singleton] at this
              rw [this]
        rcases this with rfl | rfl
        · exact .inl h2
        · exact .inr (TS_reverse.mp (by simpa using h2))
      · rintro (h | h)
        · exact ⟨_, .refl _, h⟩
        · exact ⟨[q, p], .swap _ _ _, by simpa using TS_reverse.mpr h⟩
  · rw [if_neg c, told_node]
    constructor
    · rintro ⟨qs, rfl | rfl, h2⟩
      · exact .inl h2
      · exact .inr (TS_reverse.mp h2)
    · rintro (h | h)
      · exact ⟨_, .inl rfl, h⟩
      · exact ⟨_, .inr rfl, TS_reverse.mpr h⟩
theorem mkAny_form {L : List Tr} (h : L ≠ []) (hf : ∀ p ∈ L, p.Form) : (mkAny L).Form := by
  match L, h with
  | [p], _ => exact hf p List.mem_cons_self
  | p :: q :: r, _ => exact Form_node.mpr ⟨by simp, nofun, hf⟩
theorem mkAny_leaves {L : List Tr} (h : L ≠ []) : (mkAny L).leaves = leavesL L := by
  match L, h with
  | [p], _ => simp [mkAny]
  | p :: q :: r, _ => simp [mkAny]
theorem mkRow_form {L : List Tr} (h : L ≠ []) (hf : ∀ p ∈ L, p.Form) : (mkRow L).Form := by
  unfold mkRow
  split
  · exact mkAny_form h hf
  · rename_i c
    exact Form_node.mpr ⟨by omega, fun _ => by omega, hf⟩
theorem mkRow_leaves {L : List Tr} (h : L ≠ []) : (mkRow L).leaves = leavesL L := by
  unfold mkRow
  split
  · exact mkAny_leaves h
  · simp
theorem make_any_eq {k : Nat} {L : List Tr} (hk : 1 ≤ k) (h : L ≠ []) : f_make_any k L = .ok (mkAny L) := by
  match L, h with
  | [p], _ => exact make_any_one hk
  | p :: q :: r, _ => exact make_any_ok hk (by simp)
theorem make_row_eq {k : Nat} {L : List Tr} (hk : 2 ≤ k) (h : L ≠ []) : f_make_row k L = .ok (mkRow L) := by
  obtain ⟨k, rfl, hk'⟩ := succ_of hk
  unfold mkRow
  by_cases c : L.length < 3
  · have : (L.length : Int) < 3 := by omega
    simp [f_make_row, this, c, make_any_eq hk' h]
  · have : ¬ (L.length : Int) < 3 := by omega
    simp [f_make_row, this, c]
/-! ### sets in orders -/
/-- no chosen thing ahead of another one -/
def EndsIn (C : List Int) (o : List Int) : Prop := o.Pairwise fun x y => x ∈ C → y ∈ C
def StartsIn (C : List Int) (o : List Int) : Prop := o.Pairwise fun x y => y ∈ C → x ∈ C
/-- the set stands together -/
def Tog (C : List Int) (o : List Int) : Prop := ∀ x y z, [x, y, z].Sublist o → x ∈ C → z ∈ C → y ∈ C
def Tch (C : List Int) (o : List Int) : Prop := ∃ x ∈ o, x ∈ C
def AllIn (C : List Int) (o : List Int) : Prop := ∀ x ∈ o, x ∈ C
def NoneIn (C : List Int) (o : List Int) : Prop := ∀ x ∈ o, x ∉ C
section
variable {C : List Int} {a b c o : List Int}
theorem EndsIn.rev (h : EndsIn C o) : StartsIn C o.reverse := by
  unfold StartsIn; rw [List.pairwise_reverse]; exact h
theorem StartsIn.rev (h : StartsIn C o) : EndsIn C o.reverse := by
  unfold EndsIn; rw [List.pairwise_reverse]; exact h
theorem ends_append : EndsIn C (a ++ b) ↔ EndsIn C a ∧ EndsIn C b ∧ (Tch C a → AllIn C b) := by
  unfold EndsIn
  rw [List.pairwise_append]
  constructor
  · rintro ⟨h1, h2, h3⟩
    exact ⟨h1, h2, fun ⟨x, m, hx⟩ y my => h3 x m y my hx⟩
  · rintro ⟨h1, h2, h3⟩
    exact ⟨h1, h2, fun x m y my hx => h3 ⟨x, m, hx⟩ y my⟩
theorem NoneIn.ends (h : NoneIn C a) : EndsIn C a := List.Pairwise.imp_of_mem (fun {x y} hx _ _ q => absurd q (h x hx)) (List.pairwise_of_forall (R := fun _ _ => True) fun _ _ => trivial)
theorem AllIn.ends (h : AllIn C a) : EndsIn C a := List.Pairwise.imp_of_mem (fun {x y} _ hy _ _ => h y hy) (List.pairwise_of_forall (R := fun _ _ => True) fun _ _ => trivial)
theorem NoneIn.starts (h : NoneIn C a) : StartsIn C a := List.Pairwise.imp_of_mem (fun {x y} _ hy _ q => absurd q (h y hy)) (List.pairwise_of_forall (R := fun _ _ => True) fun _ _ => trivial)
theorem AllIn.starts (h : AllIn C a) : StartsIn C a := List.Pairwise.imp_of_mem (fun {x y} hx _ _ _ => h x hx) (List.pairwise_of_forall (R := fun _ _ => True) fun _ _ => trivial)
theorem not_tch : ¬ Tch C a ↔ NoneIn C a := ⟨fun h x m q => h ⟨x, m, q⟩, fun h ⟨x, m, q⟩ => h x m q⟩
theorem sub3 {x y z : Int} : [x, y, z].Sublist (a ++ b) ↔ [x, y, z].Sublist a ∨ ([x, y].Sublist a ∧ z ∈ b) ∨ (x ∈ a ∧ [y, z].Sublist b) ∨ [x, y, z].Sublist b := by
  rw [List.sublist_append_iff]
  constructor
  · rintro ⟨l1, l2, e, h1, h2⟩
    match l1, e with
    | [], e => simp at e; subst e; exact .inr (.inr (.inr h2))
    | [p], e => simp at e; obtain ⟨rfl, rfl⟩ := e; exact .inr (.inr (.inl ⟨by simpa using h1, h2⟩))
    | [p, q], e => simp at e; obtain ⟨rfl, rfl, rfl⟩ := e; exact .inr (.inl ⟨h1, by simpa using h2⟩)
    | [p, q, r], e => simp at e; obtain ⟨rfl, rfl, rfl, rfl⟩ := e; exact .inl h1
    | p :: q :: r :: s :: t, e => simp at e
  · rintro (h | ⟨h1, h2⟩ | ⟨h1, h2⟩ | h)
    · exact ⟨[x, y, z], [], by simp, h, by simp⟩
    · exact ⟨[x, y], [z], by simp, h1, by simpa using h2⟩
    · exact ⟨[x], [y, z], by simp, by simpa using h1, h2⟩
    · exact ⟨[], [x, y, z], by simp, by simp, h⟩
theorem ends_sub : EndsIn C a ↔ ∀ x y, [x, y].Sublist a → x ∈ C → y ∈ C := by
  unfold EndsIn
  rw [List.pairwise_iff_forall_sublist]
theorem starts_sub : StartsIn C a ↔ ∀ x y, [x, y].Sublist a → y ∈ C → x ∈ C := by
  unfold StartsIn
  rw [List.pairwise_iff_forall_sublist]
theorem tog_append : Tog C (a ++ b) ↔ Tog C a ∧ Tog C b ∧ (Tch C b → EndsIn C a) ∧ (Tch C a → StartsIn C b) := by
  constructor
  · intro h
    refine ⟨fun x y z s => h x y z (sub3.mpr (.inl s)), fun x y z s => h x y z (sub3.mpr (.inr (.inr (.inr s)))), fun ⟨z, mz, hz⟩ => ends_sub.mpr fun x y s hx => h x y z (sub3.mpr (.inr (.inl ⟨s, mz⟩))) hx hz, fun ⟨x, mx, hx⟩ => starts_sub.mpr fun y z s hz => h x y z (sub3.mpr (.inr (.inr (.inl ⟨mx, s⟩)))) hx hz⟩
  · rintro ⟨h1, h2, h3, h4⟩ x y z s hx hz
    rcases sub3.mp s with s | ⟨s, m⟩ | ⟨m, s⟩ | s
    · exact h1 x y z s hx hz
    · exact ends_sub.mp (h3 ⟨z, m, hz⟩) x y s hx
    · exact starts_sub.mp (h4 ⟨x, m, hx⟩) y z s hz
    · exact h2 x y z s hx hz
theorem EndsIn.tog (h : EndsIn C a) : Tog C a := fun x y z s hx _ => ends_sub.mp h x y (List.Sublist.trans (by simp) s) hx
theorem StartsIn.tog (h : StartsIn C a) : Tog C a := fun x y z s _ hz => starts_sub.mp h y z (List.Sublist.trans (by simp) s) hz
theorem AllIn.tog (h : AllIn C a) : Tog C a := h.ends.tog
theorem NoneIn.tog (h : NoneIn C a) : Tog C a := h.ends.tog
theorem tog_free_left (h : NoneIn C a) : Tog C (a ++ b) ↔ Tog C b := by
  rw [tog_append]
  exact ⟨fun q => q.2.1, fun q => ⟨h.tog, q, fun _ => h.ends, fun t => absurd t (not_tch.mpr h)⟩⟩
theorem tog_free_right (h : NoneIn C b) : Tog C (a ++ b) ↔ Tog C a := by
  rw [tog_append]
  exact ⟨fun q => q.1, fun q => ⟨q, h.tog, fun t => absurd t (not_tch.mpr h), fun _ => h.starts⟩⟩
theorem tog_rev : Tog C o.reverse ↔ Tog C o := by
  have key : ∀ o, Tog C o → Tog C o.reverse := fun o h x y z s hx hz => h z y x (by have := s.reverse; simpa using this) hz hx
  exact ⟨fun h => by simpa using key _ h, key o⟩
/-- two touched ends, between them chosen things alone -/
theorem tog_mid (ha : Tch C a) (hb : AllIn C b) (hc : Tch C c) : Tog C (a ++ b ++ c) ↔ EndsIn C a ∧ StartsIn C c := by
  rw [tog_append, tog_append]
  constructor
  · rintro ⟨⟨_, _, _, _⟩, _, h1, h2⟩
    refine ⟨(ends_append.mp (h1 hc)).1, h2 ?_⟩
    obtain ⟨x, m, q⟩ := ha
    exact ⟨x, List.mem_append_left _ m, q⟩
  · rintro ⟨h1, h2⟩
    exact ⟨⟨h1.tog, hb.tog, fun _ => h1, fun _ => hb.starts⟩, h2.tog, fun _ => ends_append.mpr ⟨h1, hb.ends, fun _ => hb⟩, fun _ => h2⟩
end
end PC

set_option Elab.async false
set_option linter.all false
set_option maxRecDepth 100000
/-! ML7: shares, and what a split tree tells. -/
namespace PC
open PySem
inductive Sh where
  | n | s | a
deriving DecidableEq
def Sh.str : Sh → Str
  | .n => "none"
  | .s => "some"
  | .a => "all"
theorem Sh.str_inj {x y : Sh} : x.str = y.str ↔ x = y := by
  cases x <;> cases y <;> decide
/-- the share of a tree in the chosen things -/
def shT (C : List Int) (t : Tr) : Sh := if t.leaves.all fun x => !memB x C then .n else if t.leaves.all fun x => memB x C then .a else .s
section
variable {C : List Int}
theorem sh_n {t : Tr} : shT C t = .n ↔ NoneIn C t.leaves := by
  unfold shT NoneIn
  by_cases h : t.leaves.all fun x => !memB x C
  · rw [if_pos h]
    simp only [List.all_eq_true, Bool.not_eq_true', memB_eq, decide_eq_false_iff_not] at h
    exact ⟨fun _ => h, fun _ => rfl⟩
  · rw [if_neg h]
    constructor
    · intro q; split at q <;> cases q
    · intro q
      exact absurd (by simpa [List.all_eq_true, memB_eq] using q) h
theorem sh_a {t : Tr} (hf : t.Form) : shT C t = .a ↔ AllIn C t.leaves := by
  constructor
  · intro h
    unfold shT at h
    split at h
    · cases h
    · split at h
      · rename_i q
        intro x m
        simpa [memB_eq] using List.all_eq_true.mp q x m
      · cases h
  · intro h
    have h0 : ¬ (t.leaves.all fun x => !memB x C) = true := by
      intro q
      have m := tl_mem hf
      have := List.all_eq_true.mp q _ m
      simp [h _ m] at this
    unfold shT
    rw [if_neg h0, if_pos (List.all_eq_true.mpr fun x m => by simpa [memB_eq] using h x m)]
theorem sh_s {t : Tr} (h : shT C t = .s) : ¬ NoneIn C t.leaves ∧ ¬ AllIn C t.leaves := by
  constructor
  · intro q; rw [sh_n.mpr q] at h; cases h
  · intro q
    unfold shT at h
    split at h
    · cases h
    · rename_i c
      rw [if_pos (List.all_eq_true.mpr fun x m => by simpa [memB_eq] using q x m)] at h
      cases h
theorem sh_tch {t : Tr} : shT C t ≠ .n ↔ Tch C t.leaves := by
  rw [Ne, sh_n]
  constructor
  · intro h
    by_cases q : Tch C t.leaves
    · exact q
    · exact absurd (not_tch.mp q) h
  · rintro ⟨x, m, h⟩ q
    exact q x m h
theorem NoneIn.perm {a b : List Int} (h : NoneIn C a) (p : b.Perm a) : NoneIn C b := fun x m => h x (p.mem_iff.mp m)
theorem AllIn.perm {a b : List Int} (h : AllIn C a) (p : b.Perm a) : AllIn C b := fun x m => h x (p.mem_iff.mp m)
theorem Tch.perm {a b : List Int} (h : Tch C a) (p : b.Perm a) : Tch C b := by
  obtain ⟨x, m, q⟩ := h
  exact ⟨x, p.mem_iff.mpr m, q⟩
/-! ### one block after the other, each with the chosen things at its end -/
def TSE (C : List Int) : List Tr → List Int → Prop
  | [], o => o = []
  | p :: r, o => ∃ a b, (Told p a ∧ EndsIn C a) ∧ TSE C r b ∧ o = a ++ b
theorem TSE_append {A B : List Tr} {o : List Int} : TSE C (A ++ B) o ↔ ∃ a b, TSE C A a ∧ TSE C B b ∧ o = a ++ b := by
  induction A generalizing o with
  | nil =>
    constructor
    · intro h; exact ⟨[], o, rfl, h, rfl⟩
    · rintro ⟨a, b, rfl, h, rfl⟩; exact h
  | cons p r ih =>
    simp only [List.cons_append, TSE, ih]
    constructor
    · rintro ⟨a, b, h1, ⟨c, d, h2, h3, rfl⟩, rfl⟩
      exact ⟨a ++ c, d, ⟨a, c, h1, h2, rfl⟩, h3, by simp⟩
    · rintro ⟨a, b, ⟨c, d, h1, h2, rfl⟩, h3, rfl⟩
      exact ⟨c, d ++ b, h1, ⟨d, b, h2, h3, rfl⟩, by simp⟩
theorem TSE.ts {L : List Tr} {o : List Int} (h : TSE C L o) : TS L o := by
  induction L generalizing o with
  | nil => exact TS_nil.mpr h
  | cons p r ih =>
    obtain ⟨a, b, h1, h2, rfl⟩ := h
    exact TS_cons.mpr ⟨a, b, h1.1, ih h2, rfl⟩
theorem TS.tse {L : List Tr} {o : List Int} (h : TS L o) (hL : ∀ p ∈ L, NoneIn C p.leaves ∨ AllIn C p.leaves) : TSE C L o := by
  induction L generalizing o with
  | nil => exact TS_nil.mp h
  | cons p r ih =>
    obtain ⟨a, b, h1, h2, rfl⟩ := TS_cons.mp h
    refine ⟨a, b, ⟨h1, ?_⟩, ih h2 fun q m => hL q (List.mem_cons_of_mem _ m), rfl⟩
    rcases hL p List.mem_cons_self with q | q
    · exact (q.perm h1.perm).ends
    · exact (q.perm h1.perm).ends
/-- no touched tree ahead of one that is not full -/
def RS (C : List Int) (p q : Tr) : Prop := shT C p ≠ .n → shT C q = .a
theorem TS_ends {L : List Tr} {o : List Int} (hf : ∀ p ∈ L, p.Form) : (TS L o ∧ EndsIn C o) ↔ (TSE C L o ∧ L.Pairwise (RS C)) := by
  induction L generalizing o with
  | nil =>
    rw [TS_nil]
    constructor
    · rintro ⟨rfl, _⟩; exact ⟨rfl, .nil⟩
    · rintro ⟨h, _⟩
      have h : o = [] := h
      subst h; exact ⟨rfl, .nil⟩
  | cons p r ih =>
    have fr : ∀ q ∈ r, q.Form := fun q m => hf q (List.mem_cons_of_mem _ m)
    constructor
    · rintro ⟨h, he⟩
      obtain ⟨a, b, h1, h2, rfl⟩ := TS_cons.mp h
      obtain ⟨e1, e2, e3⟩ := ends_append.mp he
      obtain ⟨g1, g2⟩ := (ih fr).mp ⟨h2, e2⟩
      refine ⟨⟨a, b, ⟨h1, e1⟩, g1, rfl⟩, .cons (fun q m t => ?_) g2⟩
      have ta : Tch C a := (sh_tch.mp t).perm h1.perm
      rw [sh_a (fr q m)]
      intro x mx
      have mb : x ∈ b := by
        refine h2.perm.mem_iff.mpr ?_
        rw [leavesL_eq]
        exact List.mem_flatten.mpr ⟨_, List.mem_map.mpr ⟨q, m, rfl⟩, mx⟩
      exact e3 ta x mb
    · rintro ⟨⟨a, b, ⟨h1, e1⟩, h2, rfl⟩, h3⟩
      obtain ⟨g1, g2⟩ := (ih fr).mpr ⟨h2, List.Pairwise.of_cons h3⟩
      refine ⟨TS_cons.mpr ⟨a, b, h1, g1, rfl⟩, ends_append.mpr ⟨e1, g2, fun t x m => ?_⟩⟩
      have tp : shT C p ≠ .n := sh_tch.mpr (t.perm h1.perm.symm)
      have m2 := g1.perm.mem_iff.mp m
      rw [leavesL_eq] at m2
      obtain ⟨l, ml, mx⟩ := List.mem_flatten.mp m2
      obtain ⟨q, mq, rfl⟩ := List.mem_map.mp ml
      exact (sh_a (fr q mq)).mp (List.rel_of_pairwise_cons h3 mq tp) x mx
/-- the parts by their shares -/
def byS (C : List Int) (s : Sh) (ps : List Tr) : List Tr := ps.filter fun p => decide (shT C p = s)
theorem byS_mem {s : Sh} {ps : List Tr} {p : Tr} : p ∈ byS C s ps ↔ p ∈ ps ∧ shT C p = s := by
  unfold byS; simp
theorem byS_append {s : Sh} {a b : List Tr} : byS C s (a ++ b) = byS C s a ++ byS C s b := by unfold byS; rw [List.filter_append]
theorem byS_same {s : Sh} {a : List Tr} (h : ∀ p ∈ a, shT C p = s) : byS C s a = a := by
  unfold byS; exact List.filter_eq_self.mpr fun p m => by simp [h p m]
theorem byS_other {s s' : Sh} {a : List Tr} (h : ∀ p ∈ a, shT C p = s') (hs : s' ≠ s) : byS C s a = [] := by
  unfold byS; exact List.filter_eq_nil_iff.mpr fun p m => by simp [h p m, hs]
theorem byS_perm {s : Sh} {a b : List Tr} (h : a.Perm b) : (byS C s a).Perm (byS C s b) := h.filter _
theorem by_perm (ps : List Tr) : (byS C .n ps ++ byS C .s ps ++ byS C .a ps).Perm ps := by
  induction ps with
  | nil => exact .refl _
  | cons p r ih =>
    have hs : shT C p = .n ∨ shT C p = .s ∨ shT C p = .a := by cases shT C p <;> simp
    unfold byS at *
    rcases hs with h | h | h
    · simp only [List.filter_cons, h, decide_true, if_true, List.cons_append]
      simpa using ih.cons p
    · simp only [List.filter_cons, h, decide_true, if_true]
      have h1 : (decide (Sh.s = Sh.n)) = false := rfl
      have h2 : (decide (Sh.s = Sh.a)) = false := rfl
      simp only [h1, h2, Bool.false_eq_true, if_false, List.append_assoc, List.cons_append]
      refine List.perm_middle.trans ((?_ : List.Perm _ _).cons p)
      simpa using ih
    · simp only [List.filter_cons, h, decide_true, if_true]
      have h1 : (decide (Sh.a = Sh.n)) = false := rfl
      have h2 : (decide (Sh.a = Sh.s)) = false := rfl
      simp only [h1, h2, Bool.false_eq_true, if_false]
      exact List.perm_middle.trans (ih.cons p)
/-- trees in such a sequence: free ones, at most one mixed one, full ones -/
theorem rs_split {L : List Tr} (h : L.Pairwise (RS C)) : L = byS C .n L ++ byS C .s L ++ byS C .a L ∧ (byS C .s L).length ≤ 1 := by
  induction L with
  | nil => exact ⟨rfl, by simp [byS]⟩
  | cons p r ih =>
    obtain ⟨h1, h2⟩ := ih (List.Pairwise.of_cons h)
    have hp : ∀ q ∈ r, shT C p ≠ .n → shT C q = .a := fun q m => List.rel_of_pairwise_cons h m
    have hs : shT C p = .n ∨ shT C p = .s ∨ shT C p = .a := by cases shT C p <;> simp
    have e1 : ∀ s, byS C s (p :: r) = byS C s [p] ++ byS C s r := fun s => by rw [← byS_append]; rfl
    rcases hs with q | q | q
    · have o : ∀ x ∈ [p], shT C x = .n := fun x m => by rw [List.mem_singleton.mp m]; exact q
      simp only [e1, byS_same o, byS_other o (show Sh.n ≠ .s by decide), byS_other o (show Sh.n ≠ .a by decide), List.nil_append]
      exact ⟨by rw [List.append_assoc, List.append_assoc, ← List.append_assoc (byS C .n r), ← h1]; rfl, h2⟩
    · have o : ∀ x ∈ [p], shT C x = .s := fun x m => by rw [List.mem_singleton.mp m]; exact q
      have ra : ∀ x ∈ r, shT C x = .a := fun x m => hp x m (by rw [q]; decide)
      simp only [e1, byS_same o, byS_same ra, byS_other o (show Sh.s ≠ .n by decide), byS_other o (show Sh.s ≠ .a by decide), byS_other ra (show Sh.a ≠ .n by decide), byS_other ra (show Sh.a ≠ .s by decide)]
      exact ⟨by simp, by simp⟩
    · have o : ∀ x ∈ [p], shT C x = .a := fun x m => by rw [List.mem_singleton.mp m]; exact q
      have ra : ∀ x ∈ r, shT C x = .a := fun x m => hp x m (by rw [q]; decide)
      simp only [e1, byS_same o, byS_same ra, byS_other o (show Sh.a ≠ .n by decide), byS_other o (show Sh.a ≠ .s by decide), byS_other ra (show Sh.a ≠ .n by decide), byS_other ra (show Sh.a ≠ .s by decide)]
      exact ⟨by simp, by simp⟩
theorem rs_make {E M F : List Tr} (hE : ∀ p ∈ E, shT C p = .n) (hM : M.length ≤ 1) (hF : ∀ p ∈ F, shT C p = .a) : (E ++ M ++ F).Pairwise (RS C) := by
  rw [List.pairwise_append, List.pairwise_append]
  refine ⟨⟨?_, ?_, fun p m q _ t => absurd (hE p m) t⟩, ?_, fun p _ q m _ => hF q m⟩
  · exact List.Pairwise.imp_of_mem (fun {x y} hx _ _ t => absurd (hE x hx) t) (List.pairwise_of_forall (R := fun _ _ => True) fun _ _ => trivial)
  · match M, hM with
    | [], _ => exact .nil
    | [x], _ => exact List.pairwise_singleton _ _
  · exact List.Pairwise.imp_of_mem (fun {x y} _ hy _ _ => hF y hy) (List.pairwise_of_forall (R := fun _ _ => True) fun _ _ => trivial)
/-- trees in any sequence -/
def TSp (L : List Tr) (o : List Int) : Prop := ∃ qs, qs.Perm L ∧ TS qs o
def optAny (L : List Tr) : List Tr := if L.isEmpty then [] else [mkAny L]
theorem ts_optAny {L : List Tr} {o : List Int} : TS (optAny L) o ↔ TSp L o := by
  unfold optAny TSp
  cases L with
  | nil =>
    simp only [List.isEmpty_nil, if_true, TS_nil, List.perm_nil]
    constructor
    · rintro rfl; exact ⟨[], rfl, TS_nil.mpr rfl⟩
    · rintro ⟨qs, rfl, h⟩; exact TS_nil.mp h
  | cons p r =>
    simp only [List.isEmpty_cons, Bool.false_eq_true, if_false, TS_single]
    exact told_mkAny (by simp)
theorem optAny_form {L : List Tr} (h : ∀ p ∈ L, p.Form) : ∀ p ∈ optAny L, p.Form := by
  unfold optAny
  cases L with
  | nil => intro p m; cases m
  | cons p r =>
    intro q m
    simp only [List.isEmpty_cons, Bool.false_eq_true, if_false, List.mem_singleton] at m
    rw [m]; exact mkAny_form (by simp) h
theorem optAny_leaves {L : List Tr} : leavesL (optAny L) = leavesL L := by
  unfold optAny
  cases L with
  | nil => rfl
  | cons p r => simp only [List.isEmpty_cons, Bool.false_eq_true, if_false, leavesL_cons, leavesL_nil, List.append_nil, mkAny_leaves (show p :: r ≠ [] by simp)]
/-- what is asked of the list into which a tree is split -/
structure EndOk (C : List Int) (t : Tr) (X : List Tr) : Prop where
  two : 2 ≤ X.length
  form : ∀ p ∈ X, p.Form
  perm : (leavesL X).Perm t.leaves
  ts : ∀ o, TS X o ↔ Told t o ∧ EndsIn C o
def SplitOk (C : List Int) (t : Tr) : Option (List Tr) → Prop
  | none => ∀ o, Told t o → ¬ EndsIn C o
  | some X => EndOk C t X
theorem mem_leavesL {L : List Tr} {x : Int} : x ∈ leavesL L ↔ ∃ p ∈ L, x ∈ p.leaves := by
  rw [leavesL_eq, List.mem_flatten]
  constructor
  · rintro ⟨l, m, h⟩
    obtain ⟨p, mp, rfl⟩ := List.mem_map.mp m
    exact ⟨p, mp, h⟩
  · rintro ⟨p, m, h⟩
    exact ⟨_, List.mem_map.mpr ⟨p, m, rfl⟩, h⟩
theorem any_two_mixed {ps : List Tr} (hf : ∀ p ∈ ps, p.Form) (h : 1 < (byS C .s ps).length) : SplitOk C (.node true ps) none := by
  intro o ho he
  obtain ⟨qs, h1, h2⟩ := told_node.mp ho
  have h1 : qs.Perm ps := h1
  obtain ⟨_, q⟩ := (TS_ends fun p m => hf p (h1.mem_iff.mp m)).mp ⟨h2, he⟩
  have := (rs_split q).2
  have := (byS_perm (C := C) (s := .s) h1).length_eq
  omega
theorem any_inner_none {ps : List Tr} {m : Tr} (hf : ∀ p ∈ ps, p.Form) (h : byS C .s ps = [m]) (hm : SplitOk C m none) : SplitOk C (.node true ps) none := by
  intro o ho he
  obtain ⟨qs, h1, h2⟩ := told_node.mp ho
  have h1 : qs.Perm ps := h1
  obtain ⟨q1, q2⟩ := (TS_ends fun p m => hf p (h1.mem_iff.mp m)).mp ⟨h2, he⟩
  obtain ⟨e, _⟩ := rs_split q2
  have e2 : byS C .s qs = [m] := by
    have := byS_perm (C := C) (s := .s) h1
    rw [h, List.perm_singleton] at this
    exact this
  rw [e, TSE_append, ] at q1
  obtain ⟨a, b, q1, _, _⟩ := q1
  obtain ⟨c, d, _, q1, _⟩ := TSE_append.mp q1
  rw [e2] at q1
  obtain ⟨x, _, q1, _⟩ := q1
  exact hm x q1.1 q1.2
theorem any_split {ps : List Tr} {I : List Tr} (hf : ∀ p ∈ ps, p.Form) (hs : shT C (.node true ps) = .s) (hl : (byS C .s ps).length ≤ 1)
    (hI : (byS C .s ps = [] ∧ I = []) ∨ ∃ m, byS C .s ps = [m] ∧ EndOk C m I) : EndOk C (.node true ps) (optAny (byS C .n ps) ++ I ++ optAny (byS C .a ps)) := by
  have tI : ∀ i, TS I i ↔ TSE C (byS C .s ps) i := by
    intro i
    rcases hI with ⟨e1, e2⟩ | ⟨m, e1, e2⟩
    · rw [e1, e2, TS_nil]; rfl
    · rw [e1, e2.ts]
      constructor
      · intro h; exact ⟨i, [], h, rfl, by simp⟩
      · rintro ⟨a, b, h1, h2, h3⟩
        have h2 : b = [] := h2
        subst h2
        rw [List.append_nil] at h3
        rw [h3]; exact h1
  have fI : ∀ p ∈ I, p.Form := by
    rcases hI with ⟨e1, e2⟩ | ⟨m, e1, e2⟩
    · rw [e2]; intro p m; cases m
    · exact e2.form
  have pI : (leavesL I).Perm (leavesL (byS C .s ps)) := by
    rcases hI with ⟨e1, e2⟩ | ⟨m, e1, e2⟩
    · rw [e1, e2]
    · rw [e1]; simpa using e2.perm
  have f1 : ∀ s, ∀ p ∈ byS C s ps, p.Form := fun s p m => hf p (byS_mem.mp m).1
  refine ⟨?_, ?_, ?_, ?_⟩
  · -- at least two trees
    rcases hI with ⟨e1, e2⟩ | ⟨m, e1, e2⟩
    · have hp := by_perm (C := C) ps
      rw [e1, List.append_nil] at hp
      have hn : byS C .n ps ≠ [] := by
        intro e
        rw [e, List.nil_append] at hp
        refine (sh_s hs).2 fun x m => ?_
        rw [leaves_node] at m
        obtain ⟨p, mp, mx⟩ := mem_leavesL.mp m
        exact (sh_a (hf p mp)).mp (byS_mem.mp (hp.mem_iff.mpr mp)).2 x mx
      have ha : byS C .a ps ≠ [] := by
        intro e
        rw [e, List.append_nil] at hp
        refine (sh_s hs).1 fun x m => ?_
        rw [leaves_node] at m
        obtain ⟨p, mp, mx⟩ := mem_leavesL.mp m
        exact sh_n.mp (byS_mem.mp (hp.mem_iff.mpr mp)).2 x mx
      have l1 : (optAny (byS C .n ps)).length = 1 := by unfold optAny; rw [if_neg (by simpa using hn)]; rfl
      have l2 : (optAny (byS C .a ps)).length = 1 := by unfold optAny; rw [if_neg (by simpa using ha)]; rfl
      simp only [List.length_append]; omega
    · have := e2.two
      simp only [List.length_append]; omega
  · intro p m
    simp only [List.mem_append] at m
    rcases m with (m | m) | m
    · exact optAny_form (f1 _) p m
    · exact fI p m
    · exact optAny_form (f1 _) p m
  · rw [leavesL_append, leavesL_append, optAny_leaves, optAny_leaves, leaves_node]
    refine ((List.Perm.append_left _ pI).append_right _).trans ?_
    rw [← leavesL_append, ← leavesL_append]
    exact perm_leavesL (by_perm ps)
  · intro o
    rw [TS_append, told_node]
    constructor
    · rintro ⟨ei, f, h1, h2, rfl⟩
      obtain ⟨e, i, h3, h4, rfl⟩ := TS_append.mp h1
      obtain ⟨E, pE, h3⟩ := ts_optAny.mp h3
      obtain ⟨F, pF, h2⟩ := ts_optAny.mp h2
      have h4 := (tI i).mp h4
      have hE : ∀ p ∈ E, shT C p = .n := fun p m => (byS_mem.mp (pE.mem_iff.mp m)).2
      have hF : ∀ p ∈ F, shT C p = .a := fun p m => (byS_mem.mp (pF.mem_iff.mp m)).2
      have pq : (E ++ byS C .s ps ++ F).Perm ps := ((pE.append_right _).append pF).trans (by_perm ps)
      have fq : ∀ p ∈ E ++ byS C .s ps ++ F, p.Form := fun p m => hf p (pq.mem_iff.mp m)
      have k1 : TSE C E e := h3.tse fun p m => .inl (sh_n.mp (hE p m))
      have k2 : TSE C F f := h2.tse fun p m => .inr ((sh_a (hf p (byS_mem.mp (pF.mem_iff.mp m)).1)).mp (hF p m))
      obtain ⟨g1, g2⟩ := (TS_ends fq).mpr ⟨TSE_append.mpr ⟨_, _, TSE_append.mpr ⟨_, _, k1, h4, rfl⟩, k2, rfl⟩, rs_make hE hl hF⟩
      exact ⟨⟨_, pq, g1⟩, g2⟩
    · rintro ⟨⟨qs, h1, h2⟩, he⟩
      have h1 : qs.Perm ps := h1
      obtain ⟨q1, q2⟩ := (TS_ends fun p m => hf p (h1.mem_iff.mp m)).mp ⟨h2, he⟩
      obtain ⟨e, el⟩ := rs_split q2
      rw [e] at q1
      obtain ⟨ei, f, q3, qf, rfl⟩ := TSE_append.mp q1
      obtain ⟨e', i, qe, qi, rfl⟩ := TSE_append.mp q3
      have hM : byS C .s qs = byS C .s ps := by
        have p := byS_perm (C := C) (s := .s) h1
        match hq : byS C .s ps, hl with
        | [], _ => rw [hq] at p; exact p.eq_nil
        | [x], _ => rw [hq] at p; exact List.perm_singleton.mp p
      rw [hM] at qi
      exact ⟨_, _, TS_append.mpr ⟨_, _, ts_optAny.mpr ⟨_, byS_perm h1, qe.ts⟩, (tI i).mpr qi, rfl⟩, ts_optAny.mpr ⟨_, byS_perm h1, qf.ts⟩, rfl⟩
/-! ### rows -/
/-- the trees of a row, the mixed ones split -/
theorem row_ts {L : List Tr} {g : Tr → List Tr} {o : List Int} (hg : ∀ p ∈ L, ∀ o, TS (g p) o ↔ Told p o ∧ EndsIn C o) : TS (L.flatMap g) o ↔ TSE C L o := by
  induction L generalizing o with
  | nil => simp only [List.flatMap_nil, TS_nil]; rfl
  | cons p r ih =>
    simp only [List.flatMap_cons, TS_append, TSE, hg p List.mem_cons_self, ih fun q m => hg q (List.mem_cons_of_mem _ m)]
theorem row_both {ps : List Tr} (hf : ∀ p ∈ ps, p.Form) (h2 : 2 ≤ ps.length) (hs : shT C (.node false ps) = .s) (h : ps.Pairwise (RS C)) (h' : ps.reverse.Pairwise (RS C)) : False := by
  rw [List.pairwise_reverse] at h'
  match ps, h2 with
  | p :: q :: r, _ =>
    have a1 : ∀ x ∈ q :: r, RS C p x := fun x m => List.rel_of_pairwise_cons h m
    have a2 : ∀ x ∈ q :: r, RS C x p := fun x m => List.rel_of_pairwise_cons h' m
    by_cases c : shT C p = .n
    · -- all are free
      refine (sh_s hs).1 fun x m => ?_
      rw [leaves_node] at m
      obtain ⟨y, my, mx⟩ := mem_leavesL.mp m
      rcases List.mem_cons.mp my with rfl | my
      · exact sh_n.mp c x mx
      · by_cases d : shT C y = .n
        · exact sh_n.mp d x mx
        · rw [a2 y my d] at c; cases c
    · refine (sh_s hs).2 fun x m => ?_
      rw [leaves_node] at m
      obtain ⟨y, my, mx⟩ := mem_leavesL.mp m
      rcases List.mem_cons.mp my with rfl | my
      · have d := a1 q List.mem_cons_self c
        have e := a2 q List.mem_cons_self (by rw [d]; decide)
        exact (sh_a (hf y List.mem_cons_self)).mp e x mx
      · exact (sh_a (hf y (List.mem_cons_of_mem _ my))).mp (a1 y my c) x mx
theorem row_split {ps told : List Tr} {g : Tr → List Tr} (hf : ∀ p ∈ ps, p.Form) (h3 : 3 ≤ ps.length) (hs : shT C (.node false ps) = .s) (ht : told = ps ∨ told = ps.reverse) (hp : told.Pairwise (RS C))
    (hg : ∀ p ∈ ps, (shT C p ≠ .s ∧ g p = [p]) ∨ (shT C p = .s ∧ EndOk C p (g p))) : EndOk C (.node false ps) (told.flatMap g) := by
  have mt : ∀ p, p ∈ told ↔ p ∈ ps := fun p => by rcases ht with rfl | rfl <;> simp
  have pt : told.Perm ps := by
    rcases ht with rfl | rfl
    · exact .refl _
    · exact List.reverse_perm _
  have hts : ∀ p ∈ told, ∀ o, TS (g p) o ↔ Told p o ∧ EndsIn C o := fun p m o => by
    rcases hg p ((mt p).mp m) with ⟨h1, h2⟩ | ⟨h1, h2⟩
    · rw [h2, TS_single]
      refine ⟨fun h => ⟨h, ?_⟩, fun h => h.1⟩
      have : shT C p = .n ∨ shT C p = .a := by
        cases q : shT C p
        · exact .inl rfl
        · exact absurd q h1
        · exact .inr rfl
      rcases this with q | q
      · exact ((sh_n.mp q).perm h.perm).ends
      · exact (((sh_a (hf p ((mt p).mp m))).mp q).perm h.perm).ends
    · exact h2.ts o
  have key : ∀ L : List Tr, (∀ p ∈ L, p ∈ ps) → L.length ≤ (L.flatMap g).length ∧ (∀ p ∈ L.flatMap g, p.Form) ∧ (leavesL (L.flatMap g)).Perm (leavesL L) := by
    intro L
    induction L with
    | nil => intro _; exact ⟨by simp, fun p m => (by cases m), .refl _⟩
    | cons p r ih =>
      intro hm
      obtain ⟨i1, i2, i3⟩ := ih fun q m => hm q (List.mem_cons_of_mem _ m)
      have hp := hg p (hm p List.mem_cons_self)
      have : 1 ≤ (g p).length ∧ (∀ q ∈ g p, q.Form) ∧ (leavesL (g p)).Perm p.leaves := by
        rcases hp with ⟨_, h2⟩ | ⟨_, h2⟩
        · rw [h2]
          exact ⟨by simp, fun q m => by rw [List.mem_singleton.mp m]; exact hf p (hm p List.mem_cons_self), by simp⟩
        · exact ⟨by have := h2.two; omega, h2.form, h2.perm⟩
      obtain ⟨g1, g2, g3⟩ := this
      refine ⟨by simp only [List.flatMap_cons, List.length_append, List.length_cons]; omega, fun q m => ?_, ?_⟩
      · rw [List.flatMap_cons, List.mem_append] at m
        rcases m with m | m
        · exact g2 q m
        · exact i2 q m
      · rw [List.flatMap_cons, leavesL_append, leavesL_cons]
        exact g3.append i3
  obtain ⟨k1, k2, k3⟩ := key told fun p m => (mt p).mp m
  have fl : ∀ p ∈ told, p.Form := fun p m => hf p ((mt p).mp m)
  refine ⟨by have := pt.length_eq; omega, k2, by rw [leaves_node]; exact k3.trans (perm_leavesL pt), fun o => ?_⟩
  rw [row_ts hts]
  constructor
  · intro h
    obtain ⟨h1, h2⟩ := (TS_ends fl).mpr ⟨h, hp⟩
    exact ⟨told_node.mpr ⟨told, ht, h1⟩, h2⟩
  · rintro ⟨h1, h2⟩
    obtain ⟨qs, h3', h4⟩ := told_node.mp h1
    have fq : ∀ p ∈ qs, p.Form := fun p m => hf p (h3'.perm.mem_iff.mp m)
    obtain ⟨g1, g2⟩ := (TS_ends fq).mp ⟨h4, h2⟩
    have : qs = told := by
      rcases h3' with rfl | rfl <;> rcases ht with rfl | rfl
      · rfl
      · exact (row_both hf (by omega) hs g2 hp).elim
      · exact (row_both hf (by omega) hs hp g2).elim
      · rfl
    rw [← this]; exact g1
theorem row_none {ps : List Tr} (hf : ∀ p ∈ ps, p.Form) (h1 : ¬ ps.Pairwise (RS C)) (h2 : ¬ ps.reverse.Pairwise (RS C)) : SplitOk C (.node false ps) none := by
  intro o ho he
  obtain ⟨qs, h3, h4⟩ := told_node.mp ho
  have fq : ∀ p ∈ qs, p.Form := fun p m => hf p (h3.perm.mem_iff.mp m)
  obtain ⟨_, g2⟩ := (TS_ends fq).mp ⟨h4, he⟩
  rcases h3 with rfl | rfl
  · exact h1 g2
  · exact h2 g2
theorem row_inner_none {ps : List Tr} {m : Tr} (hf : ∀ p ∈ ps, p.Form) (hm : m ∈ ps) (h : SplitOk C m none) : SplitOk C (.node false ps) none := by
  intro o ho he
  obtain ⟨qs, h3, h4⟩ := told_node.mp ho
  have fq : ∀ p ∈ qs, p.Form := fun p m => hf p (h3.perm.mem_iff.mp m)
  obtain ⟨g1, _⟩ := (TS_ends fq).mp ⟨h4, he⟩
  have mq := h3.perm.mem_iff.mpr hm
  obtain ⟨A, B, e⟩ := List.append_of_mem mq
  rw [e, TSE_append] at g1
  obtain ⟨a, b, _, ⟨x, y, q, _⟩, _⟩ := g1
  exact h x q.1 q.2
end
end PC

set_option Elab.async false
set_option linter.all false
set_option maxRecDepth 100000
/-! ML8: the typed splitting. -/
namespace PC
open PySem
section
variable {C : List Int}
theorem parts_len {L : List Tr} (h : ∀ p ∈ L, p.Form) : L.length ≤ (leavesL L).length := by
  induction L with
  | nil => simp
  | cons p r ih =>
    have := ih fun q m => h q (List.mem_cons_of_mem _ m)
    have := leaves_pos p (h p List.mem_cons_self)
    simp; omega
theorem share_ok {k : Nat} {t : Tr} (h : t.dep + 3 ≤ k) (hf : t.Form) (hl : t.leaves.length ≤ 1000) : f_share k t C = .ok (shT C t).str := by
  obtain ⟨k, rfl, h1⟩ := succ_of h
  have hp := leaves_pos t hf
  have e1 := listed_ok h1 (show t.leaves.length ≤ 1000000 by omega)
  simp only [f_share, e1, letR_ok, cnd_ok]
  unfold shT
  by_cases c : t.leaves.all fun x => !memB x C
  · have : (t.leaves.filter fun x => memB x C) = [] := by
      rw [List.filter_eq_nil_iff]
      intro x m
      have := List.all_eq_true.mp c x m
      simpa using this
    rw [this, if_pos c]
    rfl
  · have c1 : ¬ ((t.leaves.filter fun x => memB x C).length : Int) = 0 := by
      intro e
      have e : (t.leaves.filter fun x => memB x C).length = 0 := by omega
      rw [List.length_eq_zero_iff, List.filter_eq_nil_iff] at e
      exact c (List.all_eq_true.mpr fun x m => by simpa using e x m)
    rw [if_neg c]
    simp only [c1, decide_false, Bool.false_eq_true, if_false]
    by_cases d : t.leaves.all fun x => memB x C
    · have : (t.leaves.filter fun x => memB x C) = t.leaves := List.filter_eq_self.mpr fun x m => List.all_eq_true.mp d x m
      rw [this, if_pos d]
      simp [Sh.str]
    · have d1 : ¬ ((t.leaves.filter fun x => memB x C).length : Int) = t.leaves.length := by
        intro e
        have e : (t.leaves.filter fun x => memB x C).length = t.leaves.length := by omega
        have := List.filter_sublist (p := fun x => memB x C) (l := t.leaves) |>.eq_of_length e
        exact d (List.all_eq_true.mpr fun x m => by
          rw [← this] at m
          exact (List.mem_filter.mp m).2)
      rw [if_neg d]
      simp only [d1, decide_false, Bool.false_eq_true, if_false]
      rfl
theorem with_share_ok {k : Nat} {ps : List Tr} {s : Sh} (h : ∀ p ∈ ps, p.dep + 4 ≤ k) (h1 : 1 ≤ k) (hf : ∀ p ∈ ps, p.Form) (hl : (leavesL ps).length ≤ 1000) : f_with_share k ps C s.str = .ok (byS C s ps) := by
  obtain ⟨k, rfl, h2⟩ := succ_of h1
  have : compR (fun part => (f_share k part C).bind fun t => R.ok (decide (t = s.str))) (fun part => R.ok part) ps = .ok (byS C s ps) := by
    rw [compR_ok (q := fun p => decide (shT C p = s)) (h := fun p => p)]
    · rw [List.map_id']; rfl
    · intro p m
      rw [share_ok (by have := h p m; omega) (hf p m) (by have := len_part m; omega), bnd_ok]
      congr 1
      exact decide_eq_decide.mpr Sh.str_inj
    · intro p m _; rfl
  simp only [f_with_share, this, letR_ok, run_rt]
theorem opt_app {k : Nat} {L s : List Tr} {ρ : Type} (hk : 1 ≤ k) (hd : ∀ p ∈ L, p.dep ≤ 31) (hs : s.length ≤ 1000000) : (cnd (neNil eTr L) (letR (f_make_any k L) fun t => appL s t fun f => (Fl.nx f : Fl (List Tr) ρ)) (Fl.nx s)) = .nx (s ++ optAny L) := by
  rw [neNil_tr hd, cnd_ok]
  cases L with
  | nil => simp [optAny]
  | cons p r =>
    simp only [List.isEmpty_cons, Bool.not_false, if_true, make_any_eq hk (show p :: r ≠ [] by simp), letR_ok, appL_ok hs, optAny, Bool.false_eq_true, if_false]
theorem split_any_ok {k : Nat} {ps : List Tr} (hf : ∀ p ∈ ps, p.Form) (hd : ∀ p ∈ ps, p.dep ≤ 31) (hl : (leavesL ps).length ≤ 1000) (hk : ∀ p ∈ ps, p.dep + 4 ≤ k) (h1 : 1 ≤ k) (hs : shT C (.node true ps) = .s)
    (ih : ∀ p ∈ ps, shT C p = .s → ∃ r, f_split k p C = .ok r ∧ SplitOk C p r) : ∃ r, f_split_any (k + 1) ps C = .ok r ∧ SplitOk C (.node true ps) r := by
  have wn := with_share_ok (C := C) (s := .n) hk h1 hf hl
  have wa := with_share_ok (C := C) (s := .a) hk h1 hf hl
  have ws := with_share_ok (C := C) (s := .s) hk h1 hf hl
  have sub : ∀ s, ∀ p ∈ byS C s ps, p ∈ ps := fun s p m => (byS_mem.mp m).1
  have pl := parts_len hf
  have bl : ∀ s, (byS C s ps).length ≤ ps.length := fun s => List.length_filter_le _ _
  have ol : ∀ L : List Tr, (optAny L).length ≤ 1 := fun L => by unfold optAny; split <;> simp
  simp only [Sh.str] at wn wa ws
  simp only [f_split_any, wn, wa, ws, letR_ok, cnd_ok]
  by_cases c : (1 : Int) < (byS C .s ps).length
  · refine ⟨none, by simp [c], any_two_mixed hf (by omega)⟩
  · have hm : (byS C .s ps).length ≤ 1 := by omega
    simp only [c, decide_false, Bool.false_eq_true, if_false]
    rw [opt_app h1 (fun p m => hd p (sub _ p m)) (by simp)]
    simp only [seq_nx, List.nil_append]
    rw [neNil_tr (fun p m => hd p (sub _ p m))]
    simp only [cnd_ok]
    match hM : byS C .s ps, hm with
    | [], _ =>
      simp only [List.isEmpty_nil, Bool.not_true, Bool.false_eq_true, if_false, seq_nx]
      rw [opt_app h1 (fun p m => hd p (sub _ p m)) (by have := ol (byS C .n ps); omega)]
      refine ⟨some (optAny (byS C .n ps) ++ optAny (byS C .a ps)), by simp, ?_⟩
      have := any_split (C := C) (I := []) hf hs (by rw [hM]; simp) (.inl ⟨hM, rfl⟩)
      simpa [SplitOk] using this
    | [m], _ =>
      have mm : m ∈ byS C .s ps := by rw [hM]; simp
      obtain ⟨r, er, hr⟩ := ih m (sub _ m mm) (byS_mem.mp mm).2
      simp only [List.isEmpty_cons, Bool.not_false, if_true, atL_zero (show 0 < [m].length by simp), List.getElem_cons_zero, bnd_ok, er, letR_ok]
      cases r with
      | none => exact ⟨none, by simp, any_inner_none hf hM hr⟩
      | some I =>
        have hr : EndOk C m I := hr
        have il : I.length ≤ 1000 := by
          have a := parts_len hr.form
          have b := hr.perm.length_eq
          have c := len_part (sub _ m mm)
          omega
        have ol1 := ol (byS C .n ps)
        simp only [Option.isNone_some, Bool.false_eq_true, if_false, optG, letR_ok]
        rw [extL_ok (by omega)]
        simp only [seq_nx]
        rw [opt_app h1 (fun p m => hd p (sub _ p m)) (by rw [List.length_append]; omega)]
        refine ⟨some (optAny (byS C .n ps) ++ I ++ optAny (byS C .a ps)), by simp, ?_⟩
        exact any_split hf hs (by rw [hM]; simp) (.inr ⟨m, hM, hr⟩)
/-! ### rows -/
def Sh.rk : Sh → Int
  | .n => 0
  | .s => 1
  | .a => 2
theorem asc_iff : ∀ {ss : List Sh}, ((ss.map Sh.rk).Pairwise (· ≤ ·) ∧ (ss.map Sh.rk).count 1 < 2) ↔ ss.Pairwise fun x y => x ≠ .n → y = .a
  | [] => by simp
  | x :: r => by
    have ih := asc_iff (ss := r)
    simp only [List.map_cons, List.pairwise_cons, List.count_cons]
    constructor
    · rintro ⟨⟨h1, h2⟩, h3⟩
      refine ⟨fun y m hx => ?_, ih.mp ⟨h2, by split at h3 <;> omega⟩⟩
      have hy := h1 y.rk (List.mem_map.mpr ⟨y, m, rfl⟩)
      cases x with
      | n => exact absurd rfl hx
      | a => cases y <;> simp_all [Sh.rk]
      | s =>
        cases y with
        | n => simp [Sh.rk] at hy
        | a => rfl
        | s =>
          have : 0 < (r.map Sh.rk).count 1 := List.count_pos_iff.mpr (List.mem_map.mpr ⟨.s, m, rfl⟩)
          simp [Sh.rk] at h3
          omega
    · rintro ⟨h1, h2⟩
      obtain ⟨h3, h4⟩ := ih.mpr h2
      refine ⟨⟨fun z m => ?_, h3⟩, ?_⟩
      · obtain ⟨y, my, rfl⟩ := List.mem_map.mp m
        have := h1 y my
        cases x <;> cases y <;> simp_all [Sh.rk]
      · cases x with
        | n => simp [Sh.rk]; omega
        | a => simp [Sh.rk]; omega
        | s =>
          have : (r.map Sh.rk).count 1 = 0 := by
            rw [List.count_eq_zero]
            intro m
            obtain ⟨y, my, e⟩ := List.mem_map.mp m
            rw [h1 y my (by decide)] at e
            simp [Sh.rk] at e
          simp [Sh.rk, this]
theorem ascends_ok {k : Nat} {ss : List Sh} (hk : 1 ≤ k) : f_ascends k (ss.map Sh.str) = .ok (decide (ss.Pairwise fun x y => x ≠ .n → y = .a)) := by
  obtain ⟨k, rfl, _⟩ := succ_of hk
  have e1 : mapR (fun told => tixR [("none" : Str), ("some" : Str), ("all" : Str)] told) (ss.map Sh.str) = .ok (ss.map Sh.rk) := by
    induction ss with
    | nil => rfl
    | cons x r ih =>
      have hx : tixR [("none" : Str), ("some" : Str), ("all" : Str)] x.str = .ok x.rk := by cases x <;> rfl
      rw [List.map_cons]
      unfold mapR
      rw [hx, ih]; rfl
  simp only [f_ascends, e1, letR_ok, run_rt]
  congr 1
  rw [Bool.eq_iff_iff]
  simp only [Bool.and_eq_true, decide_eq_true_eq]
  rw [← asc_iff]
  constructor
  · rintro ⟨h1, h2⟩
    exact ⟨by rw [h1]; exact isort_sorted_m _, by omega⟩
  · rintro ⟨h1, h2⟩
    exact ⟨(isort_id h1).symm, by omega⟩
instance RS.dec : DecidableRel (RS C) := fun p q => inferInstanceAs (Decidable (shT C p ≠ .n → shT C q = .a))
theorem rs_shares {L : List Tr} : (L.map (shT C)).Pairwise (fun x y => x ≠ .n → y = .a) ↔ L.Pairwise (RS C) := by
  rw [List.pairwise_map]; rfl
theorem shares_ok {k : Nat} {L : List Tr} (h : ∀ p ∈ L, p.dep + 3 ≤ k) (hf : ∀ p ∈ L, p.Form) (hl : ∀ p ∈ L, p.leaves.length ≤ 1000) : mapR (fun part => f_share k part C) L = .ok ((L.map (shT C)).map Sh.str) := by
  rw [List.map_map]
  exact mapR_ok fun p m => share_ok (h p m) (hf p m) (hl p m)
theorem row_asc {k : Nat} {L : List Tr} (h : ∀ p ∈ L, p.dep + 3 ≤ k) (h1 : 1 ≤ k) (hf : ∀ p ∈ L, p.Form) (hl : ∀ p ∈ L, p.leaves.length ≤ 1000) : (mapR (fun part => f_share k part C) L).bind (fun t => f_ascends k t) = .ok (decide (L.Pairwise (RS C))) := by
  rw [shares_ok h hf hl, bnd_ok, ascends_ok h1]
  congr 1
  exact decide_eq_decide.mpr rs_shares
theorem split_row_ok {k : Nat} {ps : List Tr} (hf : ∀ p ∈ ps, p.Form) (h3 : 3 ≤ ps.length) (hl : (leavesL ps).length ≤ 1000) (hk : ∀ p ∈ ps, p.dep + 3 ≤ k) (h1 : 1 ≤ k) (hs : shT C (.node false ps) = .s)
    (ih : ∀ p ∈ ps, shT C p = .s → ∃ r, f_split k p C = .ok r ∧ SplitOk C p r) : ∃ r, f_split_row (k + 1) ps C = .ok r ∧ SplitOk C (.node false ps) r := by
  have hlp : ∀ p ∈ ps, p.leaves.length ≤ 1000 := fun p m => by have := len_part m; omega
  have a1 := row_asc (C := C) hk h1 hf hlp
  have a2 := row_asc (C := C) (L := ps.reverse) (fun p m => hk p (List.mem_reverse.mp m)) h1 (fun p m => hf p (List.mem_reverse.mp m)) (fun p m => hlp p (List.mem_reverse.mp m))
  simp only [f_split_row, letR_ok, a1, bnd_ok, cnd_ok]
  have fin : ∀ told : List Tr, (told = ps ∨ told = ps.reverse) → told.Pairwise (RS C) → ∃ r, Fl.run (Fl.seq (forL told ([] : List Tr) fun part2 (s2 : (List Tr)) =>
      Fl.seq (cnd (((f_share k part2 C)).bind fun t4 => .ok (decide (t4 = ("some" : Str))))
        (letR (f_split k part2 C) fun inner =>
        if (Option.isNone inner) = true then (Fl.rt none : Fl (List Tr) (Option (List Tr))) else
          (letR (optG inner) fun t5 => extL s2 t5 fun found1 => .nx (found1)))
        (appL s2 part2 fun found2 => .nx (found2))) fun (s3 : (List Tr)) =>
      .nx (s3)) fun (s2 : (List Tr)) => (Fl.rt (some s2) : Fl Unit (Option (List Tr)))) (.ok none) = .ok r ∧ SplitOk C (.node false ps) r := by
    intro told ht hp
    have mt : ∀ p, p ∈ told ↔ p ∈ ps := fun p => by rcases ht with rfl | rfl <;> simp
    have pt : told.Perm ps := by
      rcases ht with rfl | rfl
      · exact .refl _
      · exact List.reverse_perm _
    -- what each tree becomes
    let g : Tr → List Tr := fun p => if shT C p = .s then (match f_split k p C with | .ok (some X) => X | _ => []) else [p]
    by_cases hall : ∀ p ∈ ps, shT C p = .s → ∃ X, f_split k p C = .ok (some X) ∧ EndOk C p X
    · have hg : ∀ p ∈ ps, (shT C p ≠ .s ∧ g p = [p]) ∨ (shT C p = .s ∧ EndOk C p (g p)) := fun p m => by
        by_cases c : shT C p = .s
        · obtain ⟨X, e, hX⟩ := hall p m c
          right
          have : g p = X := by simp only [g, c, if_true, e]
          exact ⟨c, this ▸ hX⟩
        · left
          exact ⟨c, by simp only [g, c, if_false]⟩
      have lg : ∀ p ∈ ps, (g p).length ≤ p.leaves.length ∧ (∀ q ∈ g p, q.Form) ∧ (leavesL (g p)).Perm p.leaves := fun p m => by
        rcases hg p m with ⟨_, e⟩ | ⟨_, e⟩
        · rw [e]; exact ⟨leaves_pos p (hf p m), fun q mq => by rw [List.mem_singleton.mp mq]; exact hf p m, by simp⟩
        · exact ⟨by have a := parts_len e.form; have b := e.perm.length_eq; omega, e.form, e.perm⟩
      have lf : ∀ L : List Tr, (∀ p ∈ L, p ∈ ps) → (L.flatMap g).length ≤ (leavesL L).length := by
        intro L
        induction L with
        | nil => intro _; simp
        | cons p r ih2 =>
          intro h
          have a := ih2 fun q m => h q (List.mem_cons_of_mem _ m)
          have b := (lg p (h p List.mem_cons_self)).1
          simp only [List.flatMap_cons, List.length_append, leavesL_cons]; omega
      refine seq_inv (G := fun x => ∃ r, Fl.run x (.ok none) = .ok r ∧ SplitOk C (.node false ps) r) (fun i s => s = (told.take i).flatMap g) rfl (fun i hi s hsi => ?_) fun s hs' => ?_
      · have m := (mt told[i]).mp (List.getElem_mem hi)
        have et : told.take (i + 1) = told.take i ++ [told[i]] := by rw [List.take_succ, List.getElem?_eq_getElem hi]; rfl
        refine ⟨s ++ g told[i], ?_, by rw [et, List.flatMap_append, hsi]; simp⟩
        have sl : s.length ≤ 1000 := by
          have a := lf (told.take i) fun p mp => (mt p).mp (List.mem_of_mem_take mp)
          have b : (leavesL (told.take i)).length ≤ (leavesL told).length := by
            conv => rhs; rw [← List.take_append_drop i told, leavesL_append, List.length_append]
            omega
          have c := (perm_leavesL pt).length_eq
          rw [hsi]; omega
        have gl : (g told[i]).length ≤ 1000 := Nat.le_trans (lg _ m).1 (hlp _ m)
        rw [share_ok (hk _ m) (hf _ m) (hlp _ m)]
        by_cases c : shT C told[i] = .s
        · obtain ⟨X, e, hX⟩ := hall _ m c
          have eg : g told[i] = X := by simp only [g, c, if_true, e]
          rw [eg] at gl ⊢
          have : decide ((shT C told[i]).str = ("some" : Str)) = true := by rw [c]; rfl
          simp only [bnd_ok, this, cnd_ok, if_true, e, letR_ok, Option.isNone_some, Bool.false_eq_true, if_false, optG]
          rw [extL_ok (by omega)]
          rfl
        · have eg : g told[i] = [told[i]] := by simp only [g, c, if_false]
          have : decide ((shT C told[i]).str = ("some" : Str)) = false := by
            rw [decide_eq_false_iff_not]
            intro e
            exact c (Sh.str_inj.mp e)
          simp only [bnd_ok, this, cnd_ok, Bool.false_eq_true, if_false]
          rw [appL_ok (by omega), eg]
          rfl
      · rw [List.take_length] at hs'
        subst hs'
        exact ⟨some _, rfl, row_split hf h3 hs ht hp hg⟩
    · -- some tree cannot be split
      have hno : ∃ p ∈ ps, shT C p = .s ∧ f_split k p C = .ok none := by
        by_cases q : ∃ p ∈ ps, shT C p = .s ∧ f_split k p C = .ok none
        · exact q
        · exfalso
          refine hall fun p m c => ?_
          obtain ⟨r, e, hr⟩ := ih p m c
          cases r with
          | none => exact absurd ⟨p, m, c, e⟩ q
          | some X => exact ⟨X, e, hr⟩
      obtain ⟨m, mm, cm, em⟩ := hno
      have hbad : SplitOk C (.node false ps) none := by
        obtain ⟨r, e, hr⟩ := ih m mm cm
        rw [em] at e
        cases e
        exact row_inner_none hf mm hr
      -- the loop ends with none
      have hpl := parts_len hf
      refine seq_gen (G := fun x => ∃ r, Fl.run x (.ok none) = .ok r ∧ SplitOk C (.node false ps) r) (fun i s => (∀ p ∈ told.take i, p ≠ m) ∧ s.length ≤ 1000 * i) ⟨fun p h => by simp at h, by simp⟩ (fun i hi s ⟨h4, h5⟩ => ?_) fun s ⟨h4, _⟩ => ?_
      · have mi := (mt told[i]).mp (List.getElem_mem hi)
        have et : told.take (i + 1) = told.take i ++ [told[i]] := by rw [List.take_succ, List.getElem?_eq_getElem hi]; rfl
        have hi' : i < 1000 := by have := pt.length_eq; omega
        have hsl : s.length ≤ 999000 := by omega
        by_cases e0 : f_split k told[i] C = .ok none ∧ shT C told[i] = .s
        · right; right; left
          refine ⟨none, ?_, none, rfl, hbad⟩
          rw [share_ok (hk _ mi) (hf _ mi) (hlp _ mi)]
          have : decide ((shT C told[i]).str = ("some" : Str)) = true := by rw [e0.2]; rfl
          simp only [bnd_ok, this, cnd_ok, if_true, e0.1, letR_ok, Option.isNone_none, seq_rt]
        · left
          have hne : told[i] ≠ m := fun e => e0 ⟨by rw [e]; exact em, by rw [e]; exact cm⟩
          have h4' : ∀ p ∈ told.take (i + 1), p ≠ m := fun p h => by
            rw [et, List.mem_append, List.mem_singleton] at h
            rcases h with h | rfl
            · exact h4 p h
            · exact hne
          rw [share_ok (hk _ mi) (hf _ mi) (hlp _ mi)]
          by_cases c : shT C told[i] = .s
          · obtain ⟨r, e, hr⟩ := ih _ mi c
            cases r with
            | none => exact absurd ⟨e, c⟩ e0
            | some X =>
              have hr : EndOk C told[i] X := hr
              have xl : X.length ≤ 1000 := by
                have a := parts_len hr.form
                have b := hr.perm.length_eq
                have c := hlp _ mi
                omega
              have : decide ((shT C told[i]).str = ("some" : Str)) = true := by rw [c]; rfl
              refine ⟨s ++ X, ?_, h4', by rw [List.length_append]; omega⟩
              simp only [bnd_ok, this, cnd_ok, if_true, e, letR_ok, Option.isNone_some, Bool.false_eq_true, if_false, optG]
              rw [extL_ok (by omega)]
              rfl
          · have : decide ((shT C told[i]).str = ("some" : Str)) = false := by
              rw [decide_eq_false_iff_not]
              intro e
              exact c (Sh.str_inj.mp e)
            refine ⟨s ++ [told[i]], ?_, h4', by rw [List.length_append]; simp; omega⟩
            simp only [bnd_ok, this, cnd_ok, Bool.false_eq_true, if_false]
            rw [appL_ok (by omega)]
            rfl
      · rw [List.take_length] at h4
        exact absurd rfl (h4 m ((mt m).mpr mm))
  by_cases c1 : ps.Pairwise (RS C)
  · simp only [c1, decide_true, Bool.not_true, Bool.false_eq_true, if_false, seq_nx, a1, bnd_ok]
    exact fin ps (.inl rfl) c1
  · by_cases c2 : ps.reverse.Pairwise (RS C)
    · simp only [c1, c2, decide_true, decide_false, Bool.not_true, Bool.not_false, Bool.false_eq_true, if_false, if_true, seq_nx, a2, bnd_ok]
      exact fin ps.reverse (.inr rfl) c2
    · refine ⟨none, ?_, row_none hf c1 c2⟩
      simp only [c1, c2, decide_false, Bool.not_false, if_true, seq_nx, a2, bnd_ok, cnd_ok, run_rt]
theorem split_ok : ∀ {t : Tr} {k : Nat}, 2 * t.dep + 6 ≤ k → t.Form → t.dep ≤ 31 → t.leaves.length ≤ 1000 → shT C t = .s → ∃ r, f_split k t C = .ok r ∧ SplitOk C t r := by
  intro t
  induction t using Tr.ind with
  | hl i =>
    intro k _ hf _ _ hs
    exfalso
    by_cases c : i ∈ C
    · exact (sh_s hs).2 fun x m => by rw [leaves_leaf, List.mem_singleton] at m; rw [m]; exact c
    · exact (sh_s hs).1 fun x m => by rw [leaves_leaf, List.mem_singleton] at m; rw [m]; exact c
  | hn w ps ih =>
    intro k hk hf hd hl hs
    obtain ⟨f1, f2, f3⟩ := Form_node.mp hf
    rw [leaves_node] at hl
    have hpd : 1 ≤ (Tr.node w ps).dep := by simp only [Tr.dep]; omega
    obtain ⟨k, rfl, hk1⟩ := succ_of hk
    obtain ⟨k, rfl, hk2⟩ := succ_of (show 1 ≤ k by omega)
    have ih' : ∀ p ∈ ps, shT C p = .s → ∃ r, f_split k p C = .ok r ∧ SplitOk C p r := fun p m => by
      have := dep_part (w := w) m
      exact ih p m (by omega) (f3 p m) (by omega) (by have := len_part m; omega)
    have hkp : ∀ p ∈ ps, p.dep + 4 ≤ k := fun p m => by have := dep_part (w := w) m; omega
    cases w with
    | true =>
      obtain ⟨r, e, hr⟩ := split_any_ok f3 (fun p m => by have := dep_part (w := true) m; omega) hl hkp (by omega) hs ih'
      exact ⟨r, by simp [f_split, Tr.word, Tr.parts, e], hr⟩
    | false =>
      obtain ⟨r, e, hr⟩ := split_row_ok f3 (f2 rfl) hl (fun p m => by have := hkp p m; omega) (by omega) hs ih'
      exact ⟨r, by simp [f_split, Tr.word, Tr.parts, e], hr⟩
end
end PC

set_option Elab.async false
set_option linter.all false
set_option maxRecDepth 100000
/-! ML9: what a tree tells in which a set stands together. -/
namespace PC
open PySem
section
variable {C : List Int}
def JoinOk (C : List Int) (t : Tr) : Option Tr → Prop
  | none => ∀ o, Told t o → ¬ Tog C o
  | some r => r.Form ∧ r.leaves.Perm t.leaves ∧ ∀ o, Told r o ↔ Told t o ∧ Tog C o
theorem join_full {t : Tr} (hf : t.Form) (h : AllIn C t.leaves) : JoinOk C t (some t) :=
  ⟨hf, .refl _, fun o => ⟨fun q => ⟨q, (h.perm q.perm).tog⟩, fun q => q.1⟩⟩
theorem join_leaf {i : Int} : JoinOk C (.leaf i) (some (.leaf i)) := ⟨by simp [Tr.Form], .refl _, fun o => ⟨fun q => ⟨q, by
  rw [told_leaf] at q
  subst q
  intro x y z s
  have := s.length_le
  simp at this⟩, fun q => q.1⟩⟩
/-! #### one part -/
def ArrAt (w : Bool) (A B X Y : List Tr) : Prop := match w with
  | true => (X ++ Y).Perm (A ++ B)
  | false => (X = A ∧ Y = B) ∨ (X = B.reverse ∧ Y = A.reverse)
theorem ArrAt.mem {w : Bool} {A B X Y : List Tr} (h : ArrAt w A B X Y) : ∀ p, p ∈ X ++ Y → p ∈ A ++ B := by
  intro p m
  cases w with
  | true => exact List.Perm.mem_iff h |>.mp m
  | false =>
    rcases h with ⟨rfl, rfl⟩ | ⟨rfl, rfl⟩
    · exact m
    · simp only [List.mem_append, List.mem_reverse] at m ⊢
      exact m.symm
theorem told_at {w : Bool} {A B : List Tr} {p : Tr} {o : List Int} : Told (.node w (A ++ p :: B)) o ↔ ∃ X Y x a y, ArrAt w A B X Y ∧ TS X x ∧ Told p a ∧ TS Y y ∧ o = x ++ a ++ y := by
  rw [told_node]
  constructor
  · rintro ⟨qs, h1, h2⟩
    have fin : ∀ X Y, qs = X ++ p :: Y → ArrAt w A B X Y → ∃ X Y x a y, ArrAt w A B X Y ∧ TS X x ∧ Told p a ∧ TS Y y ∧ o = x ++ a ++ y := by
      rintro X Y rfl h
      obtain ⟨x, r, h3, h4, rfl⟩ := TS_append.mp h2
      obtain ⟨a, y, h5, h6, rfl⟩ := TS_cons.mp h4
      exact ⟨X, Y, x, a, y, h, h3, h5, h6, by simp⟩
    cases w with
    | true =>
      have h1 : qs.Perm (A ++ p :: B) := h1
      have m : p ∈ qs := h1.mem_iff.mpr (by simp)
      obtain ⟨X, Y, rfl⟩ := List.append_of_mem m
      refine fin X Y rfl ?_
      have := (List.perm_middle.symm.trans h1).trans List.perm_middle
      exact (List.perm_cons p).mp this
    | false =>
      rcases h1 with rfl | rfl
      · exact fin A B rfl (.inl ⟨rfl, rfl⟩)
      · exact fin B.reverse A.reverse (by simp) (.inr ⟨rfl, rfl⟩)
  · rintro ⟨X, Y, x, a, y, h, h1, h2, h3, rfl⟩
    refine ⟨X ++ p :: Y, ?_, TS_append.mpr ⟨x, a ++ y, h1, TS_cons.mpr ⟨a, y, h2, h3, rfl⟩, by simp⟩⟩
    cases w with
    | true => exact List.perm_middle.trans ((List.Perm.cons p h).trans List.perm_middle.symm)
    | false =>
      rcases h with ⟨rfl, rfl⟩ | ⟨rfl, rfl⟩
      · exact .inl rfl
      · exact .inr (by simp)
theorem free_ts {L : List Tr} {o : List Int} (h : TS L o) (hL : ∀ p ∈ L, shT C p = .n) : NoneIn C o := by
  intro x m
  obtain ⟨p, mp, mx⟩ := mem_leavesL.mp (h.perm.mem_iff.mp m)
  exact sh_n.mp (hL p mp) x mx
theorem full_ts {L : List Tr} {o : List Int} (h : TS L o) (hf : ∀ p ∈ L, p.Form) (hL : ∀ p ∈ L, shT C p = .a) : AllIn C o := by
  intro x m
  obtain ⟨p, mp, mx⟩ := mem_leavesL.mp (h.perm.mem_iff.mp m)
  exact (sh_a (hf p mp)).mp (hL p mp) x mx
theorem join_one {w : Bool} {A B : List Tr} {p : Tr} {r : Option Tr} (hf : (Tr.node w (A ++ p :: B)).Form) (hA : ∀ q ∈ A ++ B, shT C q = .n) (hr : JoinOk C p r) : JoinOk C (.node w (A ++ p :: B)) (r.map fun p' => .node w (A ++ p' :: B)) := by
  have free : ∀ {X Y : List Tr} {x y : List Int}, ArrAt w A B X Y → TS X x → TS Y y → NoneIn C x ∧ NoneIn C y := fun h h1 h2 =>
    ⟨free_ts h1 fun q m => hA q (h.mem q (List.mem_append_left _ m)), free_ts h2 fun q m => hA q (h.mem q (List.mem_append_right _ m))⟩
  have tg : ∀ {x a y : List Int}, NoneIn C x → NoneIn C y → (Tog C (x ++ a ++ y) ↔ Tog C a) := fun h1 h2 => by rw [tog_free_right h2, tog_free_left h1]
  cases r with
  | none =>
    intro o ho ht
    obtain ⟨X, Y, x, a, y, h, h1, h2, h3, rfl⟩ := told_at.mp ho
    obtain ⟨f1, f2⟩ := free h h1 h3
    exact hr a h2 ((tg f1 f2).mp ht)
  | some p' =>
    obtain ⟨g1, g2, g3⟩ := hr
    obtain ⟨f1, f2, f3⟩ := Form_node.mp hf
    refine ⟨Form_node.mpr ⟨by simpa using f1, fun e => by simpa using f2 e, fun q m => ?_⟩, ?_, fun o => ?_⟩
    · simp only [List.mem_append, List.mem_cons] at m f3
      rcases m with m | rfl | m
      · exact f3 q (.inl m)
      · exact g1
      · exact f3 q (.inr (.inr m))
    · simp only [leaves_node, leavesL_append, leavesL_cons]
      exact (g2.append_right _).append_left _
    · show Told (.node w (A ++ p' :: B)) o ↔ _
      rw [told_at, told_at]
      constructor
      · rintro ⟨X, Y, x, a, y, h, h1, h2, h3, rfl⟩
        obtain ⟨k1, k2⟩ := free h h1 h3
        obtain ⟨m1, m2⟩ := (g3 a).mp h2
        exact ⟨⟨X, Y, x, a, y, h, h1, m1, h3, rfl⟩, (tg k1 k2).mpr m2⟩
      · rintro ⟨⟨X, Y, x, a, y, h, h1, h2, h3, rfl⟩, ht⟩
        obtain ⟨k1, k2⟩ := free h h1 h3
        exact ⟨X, Y, x, a, y, h, h1, (g3 a).mpr ⟨h2, (tg k1 k2).mp ht⟩, h3, rfl⟩
/-! #### touched trees side by side -/
theorem mid_full {X I Y : List Tr} {f l : Tr} {o : List Int} (hX : ∀ p ∈ X, shT C p = .n) (hY : ∀ p ∈ Y, shT C p = .n) (hf : shT C f ≠ .n) (hl : shT C l ≠ .n) (hI : ∀ p ∈ I, p.Form) :
    (TS (X ++ f :: (I ++ l :: Y)) o ∧ Tog C o) ↔ (∀ p ∈ I, shT C p = .a) ∧ ∃ x a i b y, TS X x ∧ (Told f a ∧ EndsIn C a) ∧ TS I i ∧ (Told l b ∧ StartsIn C b) ∧ TS Y y ∧ o = x ++ (a ++ i ++ b) ++ y := by
  constructor
  · rintro ⟨h, ht⟩
    obtain ⟨x, r, h1, h2, rfl⟩ := TS_append.mp h
    obtain ⟨a, r, h3, h4, rfl⟩ := TS_cons.mp h2
    obtain ⟨i, r, h5, h6, rfl⟩ := TS_append.mp h4
    obtain ⟨b, y, h7, h8, rfl⟩ := TS_cons.mp h6
    have e : x ++ (a ++ (i ++ (b ++ y))) = x ++ (a ++ i ++ b) ++ y := by simp
    rw [e] at ht
    rw [tog_free_right (free_ts h8 hY), tog_free_left (free_ts h1 hX)] at ht
    have ta : Tch C a := (sh_tch.mp hf).perm h3.perm
    have tb : Tch C b := (sh_tch.mp hl).perm h7.perm
    have ai : AllIn C i := by
      obtain ⟨u, mu, hu⟩ := ta
      obtain ⟨v, mv, hv⟩ := tb
      intro z mz
      refine ht u z v ?_ hu hv
      rw [sub3]
      refine .inr (.inl ⟨?_, mv⟩)
      have : [u, z] = [u] ++ [z] := rfl
      rw [this]
      exact (List.singleton_sublist.mpr mu).append (List.singleton_sublist.mpr mz)
    obtain ⟨k1, k2⟩ := (tog_mid ta ai tb).mp ht
    refine ⟨fun p m => (sh_a (hI p m)).mpr fun z mz => ai z (h5.perm.mem_iff.mpr (mem_leavesL.mpr ⟨p, m, mz⟩)), x, a, i, b, y, h1, ⟨h3, k1⟩, h5, ⟨h7, k2⟩, h8, e⟩
  · rintro ⟨hfull, x, a, i, b, y, h1, ⟨h3, k1⟩, h5, ⟨h7, k2⟩, h8, rfl⟩
    have ta : Tch C a := (sh_tch.mp hf).perm h3.perm
    have tb : Tch C b := (sh_tch.mp hl).perm h7.perm
    refine ⟨?_, ?_⟩
    · exact TS_append.mpr ⟨x, a ++ (i ++ (b ++ y)), h1, TS_cons.mpr ⟨a, _, h3, TS_append.mpr ⟨i, _, h5, TS_cons.mpr ⟨b, y, h7, h8, rfl⟩, rfl⟩, rfl⟩, by simp⟩
    · rw [tog_free_right (free_ts h8 hY), tog_free_left (free_ts h1 hX)]
      exact (tog_mid ta (full_ts h5 hI hfull) tb).mpr ⟨k1, k2⟩
/-- the first and the last touched tree -/
theorem first_touched : ∀ {L : List Tr}, (∃ p ∈ L, shT C p ≠ .n) → ∃ X f R, L = X ++ f :: R ∧ (∀ p ∈ X, shT C p = .n) ∧ shT C f ≠ .n
  | [], h => by obtain ⟨p, m, _⟩ := h; cases m
  | q :: r, h => by
    by_cases c : shT C q = .n
    · have : ∃ p ∈ r, shT C p ≠ .n := by
        obtain ⟨p, m, hp⟩ := h
        rcases List.mem_cons.mp m with rfl | m
        · exact absurd c hp
        · exact ⟨p, m, hp⟩
      obtain ⟨X, f, R, e, h1, h2⟩ := first_touched this
      exact ⟨q :: X, f, R, by rw [e]; rfl, fun p m => by rcases List.mem_cons.mp m with rfl | m; exact c; exact h1 p m, h2⟩
    · exact ⟨[], q, r, rfl, fun p m => (by cases m), c⟩
theorem last_touched {L : List Tr} (h : ∃ p ∈ L, shT C p ≠ .n) : ∃ R f Y, L = R ++ f :: Y ∧ (∀ p ∈ Y, shT C p = .n) ∧ shT C f ≠ .n := by
  obtain ⟨X, f, R, e, h1, h2⟩ := first_touched (C := C) (L := L.reverse) (by obtain ⟨p, m, hp⟩ := h; exact ⟨p, List.mem_reverse.mpr m, hp⟩)
  refine ⟨R.reverse, f, X.reverse, ?_, fun p m => h1 p (List.mem_reverse.mp m), h2⟩
  have := congrArg List.reverse e
  rw [List.reverse_reverse] at this
  rw [this]; simp
/-- the touched parts -/
def tchd (C : List Int) (ps : List Tr) : List Tr := ps.filter fun p => decide (shT C p ≠ .n)
theorem tchd_mem {ps : List Tr} {p : Tr} : p ∈ tchd C ps ↔ p ∈ ps ∧ shT C p ≠ .n := by unfold tchd; simp
theorem tchd_append {a b : List Tr} : tchd C (a ++ b) = tchd C a ++ tchd C b := by unfold tchd; rw [List.filter_append]
theorem tchd_free {a : List Tr} (h : ∀ p ∈ a, shT C p = .n) : tchd C a = [] := by
  unfold tchd; exact List.filter_eq_nil_iff.mpr fun p m => by simp [h p m]
theorem tchd_all {a : List Tr} (h : ∀ p ∈ a, shT C p ≠ .n) : tchd C a = a := by
  unfold tchd; exact List.filter_eq_self.mpr fun p m => by simp [h p m]
theorem two_ends {L : List Tr} (h : 2 ≤ (tchd C L).length) : ∃ X f I l Y, L = X ++ f :: (I ++ l :: Y) ∧ (∀ p ∈ X, shT C p = .n) ∧ (∀ p ∈ Y, shT C p = .n) ∧ shT C f ≠ .n ∧ shT C l ≠ .n := by
  have h1 : ∃ p ∈ L, shT C p ≠ .n := by
    match hq : tchd C L, h with
    | p :: r, _ =>
      have : p ∈ tchd C L := by rw [hq]; simp
      exact ⟨p, (tchd_mem.mp this).1, (tchd_mem.mp this).2⟩
  obtain ⟨X, f, R, rfl, hX, hf⟩ := first_touched h1
  have h2 : ∃ p ∈ R, shT C p ≠ .n := by
    have e : tchd C (X ++ f :: R) = f :: tchd C R := by
      rw [tchd_append, tchd_free hX]
      unfold tchd
      rw [List.filter_cons, if_pos (by simpa using hf)]; rfl
    rw [e] at h
    match hq : tchd C R, h with
    | p :: r, _ =>
      have : p ∈ tchd C R := by rw [hq]; simp
      exact ⟨p, (tchd_mem.mp this).1, (tchd_mem.mp this).2⟩
    | [], h => simp at h
  obtain ⟨I, l, Y, rfl, hY, hl⟩ := last_touched h2
  exact ⟨X, f, I, l, Y, rfl, hX, hY, hf, hl⟩
theorem tchd_perm (ps : List Tr) : (tchd C ps).Perm (byS C .s ps ++ byS C .a ps) := by
  induction ps with
  | nil => exact .refl _
  | cons p r ih =>
    unfold tchd byS at *
    cases h : shT C p with
    | n => simpa [List.filter_cons, h] using ih
    | s => simpa [List.filter_cons, h] using ih.cons p
    | a =>
      simp only [List.filter_cons, h]
      simp only [ne_eq, reduceCtorEq, not_false_eq_true, decide_true, if_true, decide_false, Bool.false_eq_true, if_false]
      exact (ih.cons p).trans List.perm_middle.symm
theorem free_tch_perm (ps : List Tr) : (byS C .n ps ++ tchd C ps).Perm ps := by
  refine (((tchd_perm ps).append_left _).trans ?_).trans (by_perm (C := C) ps)
  rw [List.append_assoc]
theorem tchd_of_perm {a b : List Tr} (h : a.Perm b) : (tchd C a).Perm (tchd C b) := h.filter _
/-- an any: the touched parts stand side by side -/
theorem any_mid {ps : List Tr} {o : List Int} (hf : ∀ p ∈ ps, p.Form) (h2 : 2 ≤ (tchd C ps).length) :
    (Told (.node true ps) o ∧ Tog C o) ↔ ∃ X Y qs x r y, (X ++ Y).Perm (byS C .n ps) ∧ qs.Perm (tchd C ps) ∧ TS X x ∧ TS qs r ∧ Tog C r ∧ TS Y y ∧ o = x ++ r ++ y := by
  constructor
  · rintro ⟨ho, ht⟩
    obtain ⟨L, h1, h3⟩ := told_node.mp ho
    have h1 : L.Perm ps := h1
    have hfL : ∀ p ∈ L, p.Form := fun p m => hf p (h1.mem_iff.mp m)
    have hl := (tchd_of_perm (C := C) h1).length_eq
    obtain ⟨X, f, I, l, Y, rfl, hX, hY, hf', hl'⟩ := two_ends (C := C) (L := L) (by omega)
    have hI : ∀ p ∈ I, p.Form := fun p m => hfL p (by simp [m])
    obtain ⟨k1, x, a, i, b, y, g1, g2, g3, g4, g5, rfl⟩ := (mid_full hX hY hf' hl' hI).mp ⟨h3, ht⟩
    have hm : ∀ p ∈ f :: (I ++ [l]), shT C p ≠ .n := fun p m => by
      simp only [List.mem_cons, List.mem_append, List.not_mem_nil, or_false] at m
      rcases m with rfl | m | rfl
      · exact hf'
      · rw [k1 p m]; decide
      · exact hl'
    have eL : X ++ f :: (I ++ l :: Y) = X ++ (f :: (I ++ [l])) ++ Y := by simp
    refine ⟨X, Y, f :: (I ++ [l]), x, a ++ i ++ b, y, ?_, ?_, g1, ?_, ?_, g5, rfl⟩
    · have := byS_perm (C := C) (s := .n) h1
      rw [eL, byS_append, byS_append, byS_same hX, byS_same hY] at this
      have e0 : byS C .n (f :: (I ++ [l])) = [] := by
        unfold byS; exact List.filter_eq_nil_iff.mpr fun p m => by simpa using hm p m
      rw [e0, List.append_nil] at this
      exact this
    · have := tchd_of_perm (C := C) h1
      rw [eL, tchd_append, tchd_append, tchd_free hX, tchd_free hY, tchd_all hm, List.nil_append, List.append_nil] at this
      exact this
    · exact TS_cons.mpr ⟨a, i ++ b, g2.1, TS_append.mpr ⟨i, b, g3, TS_single.mpr g4.1, rfl⟩, by simp⟩
    · have ta : Tch C a := (sh_tch.mp hf').perm g2.1.perm
      have tb : Tch C b := (sh_tch.mp hl').perm g4.1.perm
      exact (tog_mid ta (full_ts g3 hI k1) tb).mpr ⟨g2.2, g4.2⟩
  · rintro ⟨X, Y, qs, x, r, y, h1, h3, h4, h5, h6, h7, rfl⟩
    have hX : ∀ p ∈ X, shT C p = .n := fun p m => (byS_mem.mp (h1.mem_iff.mp (List.mem_append_left _ m))).2
    have hY : ∀ p ∈ Y, shT C p = .n := fun p m => (byS_mem.mp (h1.mem_iff.mp (List.mem_append_right _ m))).2
    refine ⟨told_node.mpr ⟨X ++ qs ++ Y, ?_, TS_append.mpr ⟨_, _, TS_append.mpr ⟨_, _, h4, h5, rfl⟩, h7, rfl⟩⟩, ?_⟩
    · show (X ++ qs ++ Y).Perm ps
      refine List.Perm.trans ?_ (free_tch_perm (C := C) ps)
      rw [List.append_assoc]
      refine ((List.perm_append_comm (l₁ := qs) (l₂ := Y)).append_left X).trans ?_
      rw [← List.append_assoc]
      exact h1.append h3
    · rw [tog_free_right (free_ts h7 hY), tog_free_left (free_ts h4 hX)]
      exact h6
/-- free trees and one more, in any sequence -/
theorem told_anyR {E : List Tr} {R : Tr} {o : List Int} : Told (mkAny (E ++ [R])) o ↔ ∃ X Y x r y, (X ++ Y).Perm E ∧ TS X x ∧ Told R r ∧ TS Y y ∧ o = x ++ r ++ y := by
  cases E with
  | nil =>
    show Told R o ↔ _
    constructor
    · intro h; exact ⟨[], [], [], o, [], .refl _, TS_nil.mpr rfl, h, TS_nil.mpr rfl, by simp⟩
    · rintro ⟨X, Y, x, r, y, h, h1, h2, h3, rfl⟩
      have e := h.eq_nil
      simp only [List.append_eq_nil_iff] at e
      obtain ⟨rfl, rfl⟩ := e
      rw [TS_nil] at h1 h3
      subst h1 h3
      simpa using h2
  | cons p s =>
    have : mkAny (p :: s ++ [R]) = .node true (p :: s ++ R :: []) := by
      match s with
      | [] => rfl
      | q :: t => rfl
    rw [this, told_at]
    simp only [ArrAt, List.append_nil]
/-- the tree of the touched parts serves an any -/
theorem any_join {ps : List Tr} {R : Tr} (hf : ∀ p ∈ ps, p.Form) (h2 : 2 ≤ (tchd C ps).length) (hR : R.Form) (hp : R.leaves.Perm (leavesL (tchd C ps))) (h : ∀ r, Told R r ↔ ∃ qs, qs.Perm (tchd C ps) ∧ TS qs r ∧ Tog C r) :
    JoinOk C (.node true ps) (some (mkAny (byS C .n ps ++ [R]))) := by
  refine ⟨mkAny_form (by simp) fun p m => ?_, ?_, fun o => ?_⟩
  · simp only [List.mem_append, List.mem_singleton] at m
    rcases m with m | rfl
    · exact hf p (byS_mem.mp m).1
    · exact hR
  · rw [mkAny_leaves (by simp), leaves_node, leavesL_append]
    refine List.Perm.trans ?_ (perm_leavesL (free_tch_perm (C := C) ps))
    rw [leavesL_append]
    simpa using hp.append_left (leavesL (byS C .n ps))
  · rw [told_anyR, any_mid hf h2]
    constructor
    · rintro ⟨X, Y, x, r, y, h1, h3, h4, h5, rfl⟩
      obtain ⟨qs, k1, k2, k3⟩ := (h r).mp h4
      exact ⟨X, Y, qs, x, r, y, h1, k1, h3, k2, k3, h5, rfl⟩
    · rintro ⟨X, Y, qs, x, r, y, h1, k1, h3, k2, k3, h5, rfl⟩
      exact ⟨X, Y, x, r, y, h1, h3, (h r).mpr ⟨qs, k1, k2, k3⟩, h5, rfl⟩
/-- .. and the other way: every told order in which the set stands together has ends -/
theorem any_ends {ps : List Tr} {o : List Int} (hf : ∀ p ∈ ps, p.Form) (h2 : 2 ≤ (tchd C ps).length) (ho : Told (.node true ps) o) (ht : Tog C o) : ∃ f I l a b, (f :: (I ++ [l])).Perm (tchd C ps) ∧ (∀ p ∈ I, shT C p = .a) ∧ (Told f a ∧ EndsIn C a) ∧ (Told l b ∧ StartsIn C b) := by
  obtain ⟨X, Y, qs, x, r, y, h1, h3, h4, h5, h6, h7, rfl⟩ := (any_mid hf h2).mp ⟨ho, ht⟩
  have hq : ∀ p ∈ qs, shT C p ≠ .n := fun p m => (tchd_mem.mp (h3.mem_iff.mp m)).2
  have e : tchd C qs = qs := tchd_all hq
  obtain ⟨X', f, I, l, Y', rfl, hX, hY, hf', hl'⟩ := two_ends (C := C) (L := qs) (by rw [e, h3.length_eq]; exact h2)
  have x0 : X' = [] := by
    cases X' with
    | nil => rfl
    | cons p s => exact absurd (hX p List.mem_cons_self) (hq p (by simp))
  have y0 : Y' = [] := by
    cases Y' with
    | nil => rfl
    | cons p s => exact absurd (hY p List.mem_cons_self) (hq p (by simp))
  subst x0 y0
  have hI : ∀ p ∈ I, p.Form := fun p m => hf p (tchd_mem.mp (h3.mem_iff.mp (by simp [m]))).1
  obtain ⟨k1, _, a, i, b, _, _, g2, _, g4, _, _⟩ := (mid_full (C := C) hX hY hf' hl' hI).mp ⟨h5, h6⟩
  exact ⟨f, I, l, a, b, by simpa using h3, k1, g2, g4⟩
theorem any_many_mixed {ps : List Tr} (hf : ∀ p ∈ ps, p.Form) (h2 : 2 ≤ (tchd C ps).length) (h : 2 < (byS C .s ps).length) : JoinOk C (.node true ps) none := by
  intro o ho ht
  obtain ⟨f, I, l, a, b, hp, hI, _, _⟩ := any_ends hf h2 ho ht
  have e1 := (byS_perm (C := C) (s := .s) hp).length_eq
  have e2 : byS C .s (f :: (I ++ [l])) = byS C .s [f] ++ byS C .s [l] := by
    have : f :: (I ++ [l]) = [f] ++ I ++ [l] := by simp
    rw [this, byS_append, byS_append, byS_other hI (by decide), List.append_nil]
  have e3 : (byS C .s (tchd C ps)).length = (byS C .s ps).length := by
    congr 1
    unfold byS tchd
    rw [List.filter_filter]
    apply List.filter_congr
    intro p _
    by_cases c : shT C p = .s <;> simp [c]
  have l1 : (byS C .s [f]).length ≤ 1 := List.length_filter_le _ _
  have l2 : (byS C .s [l]).length ≤ 1 := List.length_filter_le _ _
  rw [e2, List.length_append] at e1
  omega
theorem any_join_none {ps : List Tr} {m : Tr} (hf : ∀ p ∈ ps, p.Form) (h2 : 2 ≤ (tchd C ps).length) (hm : m ∈ byS C .s ps) (h : SplitOk C m none) : JoinOk C (.node true ps) none := by
  intro o ho ht
  obtain ⟨f, I, l, a, b, hp, hI, ha, hb⟩ := any_ends hf h2 ho ht
  have hs := (byS_mem.mp hm).2
  have mt : m ∈ f :: (I ++ [l]) := hp.mem_iff.mpr (tchd_mem.mpr ⟨(byS_mem.mp hm).1, by rw [hs]; decide⟩)
  simp only [List.mem_cons, List.mem_append, List.not_mem_nil, or_false] at mt
  rcases mt with rfl | mt | rfl
  · exact h a ha.1 ha.2
  · rw [hI m mt] at hs; cases hs
  · exact h b.reverse hb.1.rev hb.2.rev
end
end PC

set_option Elab.async false
set_option linter.all false
set_option maxRecDepth 100000
/-! ML10: the trees of the touched parts, rows. -/
namespace PC
open PySem
section
variable {C : List Int}
/-- at least one tree that is ended by the chosen things -/
structure End1 (C : List Int) (t : Tr) (X : List Tr) : Prop where
  ne : X ≠ []
  form : ∀ p ∈ X, p.Form
  perm : (leavesL X).Perm t.leaves
  ts : ∀ o, TS X o ↔ Told t o ∧ EndsIn C o
theorem EndOk.end1 {t : Tr} {X : List Tr} (h : EndOk C t X) : End1 C t X := ⟨fun e => by have := h.two; rw [e] at this; simp at this, h.form, h.perm, h.ts⟩
theorem end1_full {t : Tr} (hf : t.Form) (h : AllIn C t.leaves) : End1 C t [t] := ⟨by simp, fun p m => by rw [List.mem_singleton.mp m]; exact hf, by simp, fun o => by
  rw [TS_single]
  exact ⟨fun q => ⟨q, (h.perm q.perm).ends⟩, fun q => q.1⟩⟩
/-- read from the other side -/
theorem End1.starts {t : Tr} {X : List Tr} (h : End1 C t X) (o : List Int) : TS X.reverse o ↔ Told t o ∧ StartsIn C o := by
  rw [TS_reverse, h.ts]
  constructor
  · rintro ⟨h1, h2⟩; exact ⟨by simpa using h1.rev, by simpa using h2.rev⟩
  · rintro ⟨h1, h2⟩; exact ⟨h1.rev, h2.rev⟩
theorem rev_closed {T : List Tr} {r : List Int} (h : ∃ qs, qs.Perm T ∧ TS qs r ∧ Tog C r) : ∃ qs, qs.Perm T ∧ TS qs r.reverse ∧ Tog C r.reverse := by
  obtain ⟨qs, h1, h2, h3⟩ := h
  exact ⟨qs.reverse, (List.reverse_perm qs).trans h1, h2.rev, tog_rev.mpr h3⟩
/-- no mixed part -/
theorem mid0 {ps : List Tr} (hf : ∀ p ∈ ps, p.Form) (h2 : 2 ≤ (tchd C ps).length) (hM : byS C .s ps = []) : ∀ r, Told (mkAny (byS C .a ps)) r ↔ ∃ qs, qs.Perm (tchd C ps) ∧ TS qs r ∧ Tog C r := by
  intro r
  have hp := tchd_perm (C := C) ps
  rw [hM, List.nil_append] at hp
  have hne : byS C .a ps ≠ [] := fun e => by rw [e] at hp; rw [hp.eq_nil] at h2; simp at h2
  rw [told_mkAny hne]
  constructor
  · rintro ⟨qs, h1, h3⟩
    refine ⟨qs, h1.trans hp.symm, h3, (full_ts h3 (fun p m => hf p (byS_mem.mp (h1.mem_iff.mp m)).1) fun p m => (byS_mem.mp (h1.mem_iff.mp m)).2).tog⟩
  · rintro ⟨qs, h1, h3, _⟩
    exact ⟨qs, h1.trans hp, h3⟩
/-- the touched parts in a sequence in which the set stands together -/
theorem tch_seq {ps qs : List Tr} {r : List Int} (hf : ∀ p ∈ ps, p.Form) (h2 : 2 ≤ (tchd C ps).length) (hq : qs.Perm (tchd C ps)) : (TS qs r ∧ Tog C r) ↔ ∃ f I l a i b, qs = f :: (I ++ [l]) ∧ (∀ p ∈ I, shT C p = .a) ∧ (Told f a ∧ EndsIn C a) ∧ TS I i ∧ (Told l b ∧ StartsIn C b) ∧ r = a ++ i ++ b := by
  have hm : ∀ p ∈ qs, shT C p ≠ .n := fun p m => (tchd_mem.mp (hq.mem_iff.mp m)).2
  have hfq : ∀ p ∈ qs, p.Form := fun p m => hf p (tchd_mem.mp (hq.mem_iff.mp m)).1
  constructor
  · rintro ⟨h3, h4⟩
    have e : tchd C qs = qs := tchd_all hm
    obtain ⟨X', f, I, l, Y', rfl, hX, hY, hf', hl'⟩ := two_ends (C := C) (L := qs) (by rw [e, hq.length_eq]; exact h2)
    have x0 : X' = [] := by
      cases X' with
      | nil => rfl
      | cons p s => exact absurd (hX p List.mem_cons_self) (hm p (by simp))
    have y0 : Y' = [] := by
      cases Y' with
      | nil => rfl
      | cons p s => exact absurd (hY p List.mem_cons_self) (hm p (by simp))
    subst x0 y0
    have hI : ∀ p ∈ I, p.Form := fun p m => hfq p (by simp [m])
    obtain ⟨k1, x, a, i, b, y, g1, g2, g3, g4, g5, rfl⟩ := (mid_full (C := C) hX hY hf' hl' hI).mp ⟨h3, h4⟩
    rw [TS_nil] at g1 g5
    subst g1 g5
    exact ⟨f, I, l, a, i, b, by simp, k1, g2, g3, g4, by simp⟩
  · rintro ⟨f, I, l, a, i, b, rfl, k1, g2, g3, g4, rfl⟩
    have hI : ∀ p ∈ I, p.Form := fun p m => hfq p (by simp [m])
    have := (mid_full (C := C) (X := []) (Y := []) (I := I) (f := f) (l := l) (o := a ++ i ++ b) (fun p m => by cases m) (fun p m => by cases m) (hm f (by simp)) (hm l (by simp)) hI).mpr ⟨k1, [], a, i, b, [], TS_nil.mpr rfl, g2, g3, g4, TS_nil.mpr rfl, by simp⟩
    simpa using this
theorem byS_ends {f l : Tr} {I : List Tr} {s : Sh} : byS C s (f :: (I ++ [l])) = byS C s [f] ++ byS C s I ++ byS C s [l] := by
  have : f :: (I ++ [l]) = [f] ++ I ++ [l] := by simp
  rw [this, byS_append, byS_append]
theorem byS_tchd_s {ps : List Tr} : byS C .s (tchd C ps) = byS C .s ps := by
  unfold byS tchd
  rw [List.filter_filter]
  apply List.filter_congr
  intro p _
  by_cases c : shT C p = .s <;> simp [c]
theorem byS_tchd_a {ps : List Tr} : byS C .a (tchd C ps) = byS C .a ps := by
  unfold byS tchd
  rw [List.filter_filter]
  apply List.filter_congr
  intro p _
  by_cases c : shT C p = .a <;> simp [c]
theorem byS_one {p : Tr} {s : Sh} : byS C s [p] = if shT C p = s then [p] else [] := by
  unfold byS
  by_cases c : shT C p = s <;> simp [c]
theorem told_full {L : List Tr} {o : List Int} (h : TSp L o) (hf : ∀ p ∈ L, p.Form) (hL : ∀ p ∈ L, shT C p = .a) : AllIn C o := by
  obtain ⟨qs, h1, h2⟩ := h
  exact full_ts h2 (fun p m => hf p (h1.mem_iff.mp m)) fun p m => hL p (h1.mem_iff.mp m)
/-- one mixed part -/
theorem mid1 {ps : List Tr} {m : Tr} {S : List Tr} (hf : ∀ p ∈ ps, p.Form) (h2 : 2 ≤ (tchd C ps).length) (hM : byS C .s ps = [m]) (hS : EndOk C m S) : ∀ r, Told (mkRow (S ++ optAny (byS C .a ps))) r ↔ ∃ qs, qs.Perm (tchd C ps) ∧ TS qs r ∧ Tog C r := by
  intro r
  have hp := tchd_perm (C := C) ps
  rw [hM] at hp
  have hF : ∀ p ∈ byS C .a ps, p.Form := fun p m => hf p (byS_mem.mp m).1
  have aF : ∀ p ∈ byS C .a ps, shT C p = .a := fun p m => (byS_mem.mp m).2
  have hms : shT C m = .s := (byS_mem.mp (show m ∈ byS C .s ps by rw [hM]; simp)).2
  have l2 : 2 ≤ (S ++ optAny (byS C .a ps)).length := by have := hS.two; rw [List.length_append]; omega
  rw [told_mkRow l2]
  have ts : ∀ r, TS (S ++ optAny (byS C .a ps)) r ↔ ∃ a f, (Told m a ∧ EndsIn C a) ∧ TSp (byS C .a ps) f ∧ r = a ++ f := by
    intro r
    rw [TS_append]
    constructor
    · rintro ⟨a, f, h1, h3, e⟩; exact ⟨a, f, (hS.ts a).mp h1, ts_optAny.mp h3, e⟩
    · rintro ⟨a, f, h1, h3, e⟩; exact ⟨a, f, (hS.ts a).mpr h1, ts_optAny.mpr h3, e⟩
  have one : ∀ r, TS (S ++ optAny (byS C .a ps)) r → ∃ qs, qs.Perm (tchd C ps) ∧ TS qs r ∧ Tog C r := by
    intro r h
    obtain ⟨a, f, h1, h3, rfl⟩ := (ts r).mp h
    have af := told_full h3 hF aF
    obtain ⟨F, hF2, h3⟩ := h3
    refine ⟨m :: F, ((hF2.cons m).trans hp.symm), TS_cons.mpr ⟨a, f, h1.1, h3, rfl⟩, ?_⟩
    exact (ends_append.mpr ⟨h1.2, af.ends, fun _ => af⟩).tog
  constructor
  · rintro (h | h)
    · exact one r h
    · have := rev_closed (one _ h)
      simpa using this
  · rintro ⟨qs, h1, h3, h4⟩
    obtain ⟨f, I, l, a, i, b, rfl, k1, g2, g3, g4, rfl⟩ := (tch_seq hf h2 h1).mp ⟨h3, h4⟩
    have es := byS_perm (C := C) (s := .s) h1
    have ea := byS_perm (C := C) (s := .a) h1
    rw [byS_tchd_s, hM, byS_ends, byS_other k1 (by decide), List.append_nil, byS_one, byS_one] at es
    rw [byS_tchd_a, byS_ends, byS_same k1, byS_one, byS_one] at ea
    have nf : shT C f ≠ .n := (tchd_mem.mp (h1.mem_iff.mp (by simp))).2
    have nl : shT C l ≠ .n := (tchd_mem.mp (h1.mem_iff.mp (by simp))).2
    by_cases cf : shT C f = .s
    · have cl : ¬ shT C l = .s := fun c => by
        rw [if_pos cf, if_pos c] at es
        have := es.length_eq
        simp at this
      have cla : shT C l = .a := by
        cases q : shT C l
        · exact absurd q nl
        · exact absurd q cl
        · rfl
      rw [if_pos cf, if_neg cl, List.append_nil, List.perm_singleton] at es
      have em : f = m := by simpa using es
      subst em
      rw [if_neg (by rw [cf]; decide), if_pos cla, List.nil_append] at ea
      left
      rw [ts]
      exact ⟨a, i ++ b, g2, ⟨I ++ [l], ea, TS_append.mpr ⟨i, b, g3, TS_single.mpr g4.1, rfl⟩⟩, by simp⟩
    · have cfa : shT C f = .a := by
        cases q : shT C f
        · exact absurd q nf
        · exact absurd q cf
        · rfl
      have cl : shT C l = .s := by
        by_cases c : shT C l = .s
        · exact c
        · rw [if_neg cf, if_neg c] at es
          have := es.length_eq
          simp at this
      rw [if_neg cf, if_pos cl, List.nil_append, List.perm_singleton] at es
      have em : l = m := by simpa using es
      subst em
      rw [if_pos cfa, if_neg (by rw [cl]; decide), List.append_nil] at ea
      right
      rw [ts]
      refine ⟨b.reverse, (a ++ i).reverse, ⟨g4.1.rev, g4.2.rev⟩, ⟨(f :: I).reverse, (List.reverse_perm _).trans ea, ?_⟩, by simp⟩
      exact (TS_cons.mpr ⟨a, i, g2.1, g3, rfl⟩ : TS (f :: I) (a ++ i)).rev
/-- two mixed parts -/
theorem mid2 {ps : List Tr} {m1 m2 : Tr} {S1 S2 : List Tr} (hf : ∀ p ∈ ps, p.Form) (h2 : 2 ≤ (tchd C ps).length) (hM : byS C .s ps = [m1, m2]) (hS1 : EndOk C m1 S1) (hS2 : EndOk C m2 S2) : ∀ r, Told (mkRow (S1 ++ optAny (byS C .a ps) ++ S2.reverse)) r ↔ ∃ qs, qs.Perm (tchd C ps) ∧ TS qs r ∧ Tog C r := by
  intro r
  have hp := tchd_perm (C := C) ps
  rw [hM] at hp
  have hF : ∀ p ∈ byS C .a ps, p.Form := fun p m => hf p (byS_mem.mp m).1
  have aF : ∀ p ∈ byS C .a ps, shT C p = .a := fun p m => (byS_mem.mp m).2
  have hm1 : shT C m1 = .s := (byS_mem.mp (show m1 ∈ byS C .s ps by rw [hM]; simp)).2
  have hm2 : shT C m2 = .s := (byS_mem.mp (show m2 ∈ byS C .s ps by rw [hM]; simp)).2
  have l2 : 2 ≤ (S1 ++ optAny (byS C .a ps) ++ S2.reverse).length := by have := hS1.two; simp only [List.length_append]; omega
  rw [told_mkRow l2]
  have ts : ∀ r, TS (S1 ++ optAny (byS C .a ps) ++ S2.reverse) r ↔ ∃ a f b, (Told m1 a ∧ EndsIn C a) ∧ TSp (byS C .a ps) f ∧ (Told m2 b ∧ StartsIn C b) ∧ r = a ++ f ++ b := by
    intro r
    rw [TS_append]
    constructor
    · rintro ⟨af, b, h1, h3, rfl⟩
      obtain ⟨a, f, h4, h5, rfl⟩ := TS_append.mp h1
      exact ⟨a, f, b, (hS1.ts a).mp h4, ts_optAny.mp h5, (hS2.end1.starts b).mp h3, rfl⟩
    · rintro ⟨a, f, b, h1, h3, h4, rfl⟩
      exact ⟨a ++ f, b, TS_append.mpr ⟨a, f, (hS1.ts a).mpr h1, ts_optAny.mpr h3, rfl⟩, (hS2.end1.starts b).mpr h4, rfl⟩
  have one : ∀ r, TS (S1 ++ optAny (byS C .a ps) ++ S2.reverse) r → ∃ qs, qs.Perm (tchd C ps) ∧ TS qs r ∧ Tog C r := by
    intro r h
    obtain ⟨a, f, b, h1, h3, h4, rfl⟩ := (ts r).mp h
    obtain ⟨F, hF2, h3⟩ := h3
    have hq : (m1 :: (F ++ [m2])).Perm (tchd C ps) := by
      refine List.Perm.trans ?_ hp.symm
      refine List.Perm.cons m1 ?_
      exact (List.perm_append_singleton m2 F).trans (hF2.cons m2)
    obtain ⟨q1, q2⟩ := (tch_seq hf h2 hq).mpr ⟨m1, F, m2, a, f, b, rfl, fun p m => aF p (hF2.mem_iff.mp m), h1, h3, h4, rfl⟩
    exact ⟨_, hq, q1, q2⟩
  constructor
  · rintro (h | h)
    · exact one r h
    · have := rev_closed (one _ h)
      simpa using this
  · rintro ⟨qs, h1, h3, h4⟩
    obtain ⟨f, I, l, a, i, b, rfl, k1, g2, g3, g4, rfl⟩ := (tch_seq hf h2 h1).mp ⟨h3, h4⟩
    have es := byS_perm (C := C) (s := .s) h1
    have ea := byS_perm (C := C) (s := .a) h1
    rw [byS_tchd_s, hM, byS_ends, byS_other k1 (by decide), List.append_nil, byS_one, byS_one] at es
    rw [byS_tchd_a, byS_ends, byS_same k1, byS_one, byS_one] at ea
    have cf : shT C f = .s := by
      by_cases c : shT C f = .s
      · exact c
      · rw [if_neg c] at es
        have := es.length_eq
        split at this <;> simp at this
    have cl : shT C l = .s := by
      by_cases c : shT C l = .s
      · exact c
      · rw [if_neg c] at es
        have := es.length_eq
        split at this <;> simp at this
    rw [if_pos cf, if_pos cl] at es
    rw [if_neg (by rw [cf]; decide), if_neg (by rw [cl]; decide), List.nil_append, List.append_nil] at ea
    have hcase : (f = m1 ∧ l = m2) ∨ (f = m2 ∧ l = m1) := by
      have : f ∈ [m1, m2] := es.mem_iff.mp (by simp)
      simp only [List.mem_cons, List.not_mem_nil, or_false] at this
      rcases this with rfl | rfl
      · have := (List.perm_cons f).mp (show (f :: [l]).Perm (f :: [m2]) from es)
        rw [List.perm_singleton] at this
        exact .inl ⟨rfl, by simpa using this⟩
      · have := (List.perm_cons f).mp ((show (f :: [l]).Perm (m1 :: [f]) from es).trans (.swap _ _ _))
        rw [List.perm_singleton] at this
        exact .inr ⟨rfl, by simpa using this⟩
    rcases hcase with ⟨rfl, rfl⟩ | ⟨rfl, rfl⟩
    · left
      rw [ts]
      exact ⟨a, i, b, g2, ⟨I, ea, g3⟩, g4, rfl⟩
    · right
      rw [ts]
      exact ⟨b.reverse, i.reverse, a.reverse, ⟨g4.1.rev, g4.2.rev⟩, ⟨I.reverse, (List.reverse_perm _).trans ea, g3.rev⟩, ⟨g2.1.rev, g2.2.rev⟩, by simp⟩
/-! #### rows -/
theorem row_join {A I B Xf Xl : List Tr} {f l : Tr} (hfm : ∀ p ∈ A ++ f :: (I ++ l :: B), p.Form) (hA : ∀ p ∈ A, shT C p = .n) (hB : ∀ p ∈ B, shT C p = .n) (hf : shT C f ≠ .n) (hl : shT C l ≠ .n) (hI : ∀ p ∈ I, shT C p = .a) (h3 : 3 ≤ (A ++ f :: (I ++ l :: B)).length)
    (eF : End1 C f Xf) (eL : End1 C l Xl) : JoinOk C (.node false (A ++ f :: (I ++ l :: B))) (some (mkRow (A ++ Xf ++ I ++ Xl.reverse ++ B))) := by
  have fI : ∀ p ∈ I, p.Form := fun p m => hfm p (by simp [m])
  have lf : 1 ≤ Xf.length := List.length_pos_iff.mpr eF.ne
  have ll : 1 ≤ Xl.length := List.length_pos_iff.mpr eL.ne
  have len : 2 ≤ (A ++ Xf ++ I ++ Xl.reverse ++ B).length := by simp only [List.length_append, List.length_reverse]; omega
  have ne : A ++ Xf ++ I ++ Xl.reverse ++ B ≠ [] := fun e => by rw [e] at len; simp at len
  refine ⟨mkRow_form ne fun p m => ?_, ?_, fun o => ?_⟩
  · simp only [List.mem_append, List.mem_reverse] at m
    rcases m with (((m | m) | m) | m) | m
    · exact hfm p (by simp [m])
    · exact eF.form p m
    · exact fI p m
    · exact eL.form p m
    · exact hfm p (by simp [m])
  · rw [mkRow_leaves ne, leaves_node]
    simp only [leavesL_append, leavesL_cons, List.append_assoc]
    refine List.Perm.append_left _ (eF.perm.append (List.Perm.append_left _ (List.Perm.append_right _ ?_)))
    exact (perm_leavesL (List.reverse_perm Xl)).trans eL.perm
  · have key : ∀ o, TS (A ++ Xf ++ I ++ Xl.reverse ++ B) o ↔ TS (A ++ f :: (I ++ l :: B)) o ∧ Tog C o := by
      intro o
      rw [mid_full hA hB hf hl fI]
      constructor
      · intro h
        refine ⟨hI, ?_⟩
        obtain ⟨o1, y, h1, h2, rfl⟩ := TS_append.mp h
        obtain ⟨o2, b, h4, h5, rfl⟩ := TS_append.mp h1
        obtain ⟨o3, i, h6, h7, rfl⟩ := TS_append.mp h4
        obtain ⟨x, a, h8, h9, rfl⟩ := TS_append.mp h6
        exact ⟨x, a, i, b, y, h8, (eF.ts a).mp h9, h7, (eL.starts b).mp h5, h2, by simp⟩
      · rintro ⟨_, x, a, i, b, y, h8, h9, h7, h5, h2, rfl⟩
        refine TS_append.mpr ⟨x ++ a ++ i ++ b, y, TS_append.mpr ⟨x ++ a ++ i, b, TS_append.mpr ⟨x ++ a, i, TS_append.mpr ⟨x, a, h8, (eF.ts a).mpr h9, rfl⟩, h7, rfl⟩, (eL.starts b).mpr h5, rfl⟩, h2, by simp⟩
    rw [told_mkRow len, key, key, told_node]
    constructor
    · rintro (⟨h1, h2⟩ | ⟨h1, h2⟩)
      · exact ⟨⟨_, .inl rfl, h1⟩, h2⟩
      · exact ⟨⟨_, .inr rfl, TS_reverse.mpr h1⟩, tog_rev.mp h2⟩
    · rintro ⟨⟨qs, rfl | rfl, h1⟩, h2⟩
      · exact .inl ⟨h1, h2⟩
      · exact .inr ⟨TS_reverse.mp h1, tog_rev.mpr h2⟩
/-- what stops a row -/
theorem row_join_none {A I B : List Tr} {f l : Tr} (hfm : ∀ p ∈ A ++ f :: (I ++ l :: B), p.Form) (hA : ∀ p ∈ A, shT C p = .n) (hB : ∀ p ∈ B, shT C p = .n) (hf : shT C f ≠ .n) (hl : shT C l ≠ .n)
    (h : (∃ p ∈ I, shT C p ≠ .a) ∨ SplitOk C f none ∨ SplitOk C l none) : JoinOk C (.node false (A ++ f :: (I ++ l :: B))) none := by
  have fI : ∀ p ∈ I, p.Form := fun p m => hfm p (by simp [m])
  have key : ∀ o, TS (A ++ f :: (I ++ l :: B)) o → Tog C o → False := by
    intro o h1 h2
    obtain ⟨k1, x, a, i, b, y, g1, g2, g3, g4, g5, rfl⟩ := (mid_full hA hB hf hl fI).mp ⟨h1, h2⟩
    rcases h with ⟨p, m, hp⟩ | h | h
    · exact hp (k1 p m)
    · exact h a g2.1 g2.2
    · exact h b.reverse g4.1.rev g4.2.rev
  intro o ho ht
  obtain ⟨qs, rfl | rfl, h1⟩ := told_node.mp ho
  · exact key o h1 ht
  · exact key o.reverse (TS_reverse.mp h1) (tog_rev.mpr ht)
end
end PC

set_option Elab.async false
set_option linter.all false
set_option maxRecDepth 100000
/-! ML11: the typed joining and reducing. -/
namespace PC
open PySem
section
variable {C : List Int}
theorem shaped_lists {l : List (Option (List Tr))} (h : ∀ o ∈ l, ∀ L, o = some L → ∀ t ∈ L, t.dep ≤ 30) : SeqAt.shaped (eL (eO (eL eTr)) l) = true := by
  have lay : PyData.canLayAll0 (l.map (eO (eL eTr))) = true := by
    clear h
    induction l with
    | nil => simp [PyData.canLayAll0]
    | cons o r ih =>
      simp only [List.map_cons, PyData.canLayAll0, ih, Bool.and_true]
      cases o with
      | none => rfl
      | some L => simp only [eO, eL, PyData.canLay0, lay_trs]
  have dep : PyData.depthAll (l.map (eO (eL eTr))) ≤ 61 := by
    induction l with
    | nil => simp [PyData.depthAll]
    | cons o r ih =>
      have a := ih (fun o m => h o (List.mem_cons_of_mem _ m)) (by simp only [List.map_cons, PyData.canLayAll0, Bool.and_eq_true] at lay; exact lay.2)
      simp only [List.map_cons, PyData.depthAll]
      have : PyData.depth (eO (eL eTr) o) ≤ 61 := by
        cases o with
        | none => simp [eO, PyData.depth]
        | some L =>
          have hL := h _ List.mem_cons_self L rfl
          have : PyData.depthAll (L.map eTr) ≤ 60 := by
            clear a ih h lay
            induction L with
            | nil => simp [PyData.depthAll]
            | cons t s ih2 =>
              have b := ddep_tr t
              have c := hL t List.mem_cons_self
              have d := ih2 fun t m => hL t (List.mem_cons_of_mem _ m)
              simp only [List.map_cons, PyData.depthAll]
              omega
          simp only [eO, eL, PyData.depth]
          omega
      omega
  simp only [SeqAt.shaped, eL, PyData.canLay0, PyData.depth, lay, Bool.true_and]
  exact decide_eq_true (by omega)
theorem noneIn_ok {l : List (Option (List Tr))} (h : ∀ o ∈ l, ∀ L, o = some L → ∀ t ∈ L, t.dep ≤ 30) : noneIn (eL eTr) l = .ok (l.any Option.isNone) := by
  unfold noneIn; rw [if_pos (shaped_lists h)]
theorem eqNil_lists {l : List (Option (List Tr))} (h : ∀ o ∈ l, ∀ L, o = some L → ∀ t ∈ L, t.dep ≤ 30) : eqNil (eO (eL eTr)) l = .ok l.isEmpty := by
  unfold eqNil; rw [if_pos (shaped_lists h)]
theorem end_dep {t : Tr} {X : List Tr} (h : EndOk C t X) (hl : t.leaves.length ≤ 30) : ∀ p ∈ X, p.dep ≤ 30 := fun p m => by
  have a := dep_lt p (h.form p m)
  have b := len_part m
  have c := h.perm.length_eq
  omega
theorem end_len {t : Tr} {X : List Tr} (h : EndOk C t X) (hl : t.leaves.length ≤ 30) : X.length ≤ 30 := by
  have a := parts_len h.form
  have c := h.perm.length_eq
  omega
theorem joined_any_ok {k : Nat} {ps : List Tr} (hf : ∀ p ∈ ps, p.Form) (hl : (leavesL ps).length ≤ 30) (hk : ∀ p ∈ ps, 2 * p.dep + 6 ≤ k) (h1 : 2 ≤ k) (h2 : 2 ≤ (tchd C ps).length) : ∃ r, f_joined_any (k + 1) ps C = .ok r ∧ JoinOk C (.node true ps) r := by
  have hd : ∀ p ∈ ps, p.dep ≤ 31 := fun p m => by have := dep_lt p (hf p m); have := len_part m; omega
  have hk4 : ∀ p ∈ ps, p.dep + 4 ≤ k := fun p m => by have := hk p m; omega
  have wn := with_share_ok (C := C) (s := .n) hk4 (by omega) hf (by omega)
  have wa := with_share_ok (C := C) (s := .a) hk4 (by omega) hf (by omega)
  have ws := with_share_ok (C := C) (s := .s) hk4 (by omega) hf (by omega)
  have sub : ∀ s, ∀ p ∈ byS C s ps, p ∈ ps := fun s p m => (byS_mem.mp m).1
  have bl : ∀ s, (byS C s ps).length ≤ ps.length := fun s => List.length_filter_le _ _
  have pl := parts_len hf
  have bln := bl .n
  have ol : ∀ L : List Tr, (optAny L).length ≤ 1 := fun L => by unfold optAny; split <;> simp
  have ola := ol (byS C .a ps)
  have sp : ∀ p ∈ byS C .s ps, ∃ r, f_split k p C = .ok r ∧ SplitOk C p r := fun p m => split_ok (hk p (sub _ p m)) (hf p (sub _ p m)) (hd p (sub _ p m)) (by have := len_part (sub _ p m); omega) (byS_mem.mp m).2
  have pll : ∀ p ∈ byS C .s ps, p.leaves.length ≤ 30 := fun p m => by have := len_part (sub _ p m); omega
  simp only [Sh.str] at wn wa ws
  simp only [f_joined_any, wn, wa, ws, letR_ok, cnd_ok]
  have mkF : ∀ R : Tr, ((catL (byS C .n ps) [R]).bind fun t => f_make_any k t) = .ok (mkAny (byS C .n ps ++ [R])) := fun R => by
    rw [catL_ok (by simp; omega), bnd_ok, make_any_eq (by omega) (by simp)]
  have rowF : ∀ S : List Tr, (∀ p ∈ S, p.Form) → S ≠ [] → f_make_row k S = .ok (mkRow S) := fun S _ hS => make_row_eq (by omega) hS
  have ofm : ∀ p ∈ optAny (byS C .a ps), p.Form := optAny_form fun p m => hf p (sub _ p m)
  by_cases c : (2 : Int) < (byS C .s ps).length
  · exact ⟨none, by simp [c], any_many_mixed hf h2 (by omega)⟩
  · have hm : (byS C .s ps).length ≤ 2 := by omega
    simp only [c, decide_false, Bool.false_eq_true, if_false]
    match hM : byS C .s ps, hm with
    | [], _ =>
      have hne : byS C .a ps ≠ [] := by
        intro e
        have := (tchd_perm (C := C) ps).length_eq
        rw [hM, e] at this
        simp at this
        rw [this] at h2
        simp at h2
      have e1 : noneIn (eL eTr) ([] : List (Option (List Tr))) = .ok false := noneIn_ok fun o m => by cases m
      have e2 : eqNil (eO (eL eTr)) ([] : List (Option (List Tr))) = .ok true := eqNil_lists fun o m => by cases m
      simp only [mapR, letR_ok, e1, e2, cnd_ok, Bool.false_eq_true, if_false, if_true, make_any_eq (show 1 ≤ k by omega) hne, bnd_ok, mkF]
      have hR := mid0 hf h2 hM
      have fR : (mkAny (byS C .a ps)).Form := mkAny_form hne fun p m => hf p (sub _ p m)
      refine ⟨_, rfl, any_join hf h2 fR ?_ hR⟩
      rw [mkAny_leaves hne]
      have := tchd_perm (C := C) ps
      rw [hM, List.nil_append] at this
      exact (perm_leavesL this).symm
    | [m], _ =>
      have mm : m ∈ byS C .s ps := by rw [hM]; simp
      obtain ⟨r, er, hr⟩ := sp m mm
      have e0 : mapR (fun part => f_split k part C) [m] = .ok [r] := by unfold mapR; rw [er]; rfl
      simp only [e0, letR_ok]
      cases r with
      | none =>
        have e1 : noneIn (eL eTr) ([none] : List (Option (List Tr))) = .ok true := noneIn_ok fun o m L e => by simp at m; rw [m] at e; cases e
        refine ⟨none, by simp only [e1, cnd_ok, if_true, run_rt], any_join_none hf h2 mm hr⟩
      | some S =>
        have hr : EndOk C m S := hr
        have hS : ∀ o ∈ ([some S] : List (Option (List Tr))), ∀ L, o = some L → ∀ t ∈ L, t.dep ≤ 30 := fun o mo L e => by
          simp at mo
          rw [mo] at e
          cases e
          exact end_dep hr (pll m mm)
        have sl := end_len hr (pll m mm)
        have e1 := noneIn_ok hS
        have e2 := eqNil_lists hS
        have a0 : atL ([some S] : List (Option (List Tr))) 0 = .ok (some S) := rfl
        simp only [e1, e2, cnd_ok, List.any_cons, List.any_nil, Option.isNone_some, Bool.or_false, List.isEmpty_cons, Bool.false_eq_true, if_false, a0, bnd_ok, optG, letR_ok]
        rw [opt_app (by omega) (fun p m => hd p (sub _ p m)) (by omega)]
        have ne : S ++ optAny (byS C .a ps) ≠ [] := fun e => by
          have := hr.two
          rw [List.append_eq_nil_iff] at e
          rw [e.1] at this; simp at this
        have fall : ∀ p ∈ S ++ optAny (byS C .a ps), p.Form := fun p m => by
          rw [List.mem_append] at m
          rcases m with m | m
          · exact hr.form p m
          · exact ofm p m
        have l1 : ¬ ((1 : Int) = 2) := by decide
        simp only [seq_nx, List.length_cons, List.length_nil, Nat.zero_add, Int.natCast_one, l1, decide_false, Bool.false_eq_true, if_false, rowF _ fall ne, bnd_ok, mkF, letR_ok, run_rt]
        refine ⟨_, rfl, any_join hf h2 (mkRow_form ne fall) ?_ (mid1 hf h2 hM hr)⟩
        rw [mkRow_leaves ne, leavesL_append, optAny_leaves]
        have := tchd_perm (C := C) ps
        rw [hM] at this
        refine List.Perm.trans ?_ (perm_leavesL this).symm
        rw [leavesL_append]
        exact (by simpa using hr.perm : (leavesL S).Perm (leavesL [m])).append_right _
    | [m1, m2], _ =>
      have mm1 : m1 ∈ byS C .s ps := by rw [hM]; simp
      have mm2 : m2 ∈ byS C .s ps := by rw [hM]; simp
      obtain ⟨r1, er1, hr1⟩ := sp m1 mm1
      obtain ⟨r2, er2, hr2⟩ := sp m2 mm2
      have e0 : mapR (fun part => f_split k part C) [m1, m2] = .ok [r1, r2] := by
        unfold mapR; rw [er1]; unfold mapR; rw [er2]; rfl
      simp only [e0, letR_ok]
      have hS : ∀ o ∈ ([r1, r2] : List (Option (List Tr))), ∀ L, o = some L → ∀ t ∈ L, t.dep ≤ 30 := fun o mo L e => by
        simp at mo
        rcases mo with rfl | rfl
        · subst e; exact end_dep hr1 (pll m1 mm1)
        · subst e; exact end_dep hr2 (pll m2 mm2)
      have e1 := noneIn_ok hS
      have e2 := eqNil_lists hS
      cases r1 with
      | none => exact ⟨none, by simp only [e1, cnd_ok, List.any_cons, Option.isNone_none, Bool.true_or, if_true, run_rt], any_join_none hf h2 mm1 hr1⟩
      | some S1 =>
        cases r2 with
        | none => exact ⟨none, by simp only [e1, cnd_ok, List.any_cons, Option.isNone_none, Bool.true_or, Bool.or_true, if_true, run_rt], any_join_none hf h2 mm2 hr2⟩
        | some S2 =>
          have hr1 : EndOk C m1 S1 := hr1
          have hr2 : EndOk C m2 S2 := hr2
          have sl1 := end_len hr1 (pll m1 mm1)
          have sl2 := end_len hr2 (pll m2 mm2)
          have a0 : atL ([some S1, some S2] : List (Option (List Tr))) 0 = .ok (some S1) := rfl
          have a1 : atL ([some S1, some S2] : List (Option (List Tr))) 1 = .ok (some S2) := rfl
          simp only [e1, e2, cnd_ok, List.any_cons, List.any_nil, Option.isNone_some, Bool.or_false, List.isEmpty_cons, Bool.false_eq_true, if_false, a0, a1, bnd_ok, optG, letR_ok]
          rw [opt_app (by omega) (fun p m => hd p (sub _ p m)) (by omega)]
          have ne : S1 ++ optAny (byS C .a ps) ++ S2.reverse ≠ [] := fun e => by
            have := hr1.two
            simp only [List.append_eq_nil_iff] at e
            rw [e.1.1] at this; simp at this
          have fall : ∀ p ∈ S1 ++ optAny (byS C .a ps) ++ S2.reverse, p.Form := fun p m => by
            simp only [List.mem_append, List.mem_reverse] at m
            rcases m with (m | m) | m
            · exact hr1.form p m
            · exact ofm p m
            · exact hr2.form p m
          have l2 : ((([some S1, some S2] : List (Option (List Tr))).length : Int) = 2) := rfl
          simp only [seq_nx, l2, decide_true, if_true, letR_ok]
          rw [extL_ok (by simp only [List.length_append, List.length_reverse]; omega)]
          simp only [seq_nx, rowF _ fall ne, bnd_ok, mkF, letR_ok, run_rt]
          refine ⟨_, rfl, any_join hf h2 (mkRow_form ne fall) ?_ (mid2 hf h2 hM hr1 hr2)⟩
          rw [mkRow_leaves ne, leavesL_append, leavesL_append, optAny_leaves]
          have := tchd_perm (C := C) ps
          rw [hM] at this
          refine List.Perm.trans ?_ (perm_leavesL this).symm
          rw [leavesL_append]
          simp only [leavesL_cons, leavesL_nil, List.append_nil]
          have p2 : (leavesL S2.reverse).Perm m2.leaves := (perm_leavesL (List.reverse_perm S2)).trans hr2.perm
          refine ((hr1.perm.append_right _).append p2).trans ?_
          rw [List.append_assoc, List.append_assoc]
          exact List.Perm.append_left _ List.perm_append_comm
/-! ### places -/
theorem iota_append {a : Int} {m n : Nat} : iota a (m + n) = iota a m ++ iota (a + m) n := by
  induction m generalizing a with
  | zero => simp [iota]
  | succ m ih =>
    have : m + 1 + n = (m + n) + 1 := by omega
    rw [this]
    simp only [iota, List.cons_append]
    rw [ih]
    congr 2
    congr 1
    omega
theorem filter_iota_none {a : Int} {n : Nat} {q : Int → Bool} (h : ∀ i, i < n → q (a + i) = false) : (iota a n).filter q = [] := by
  rw [List.filter_eq_nil_iff]
  intro x m
  obtain ⟨h1, h2⟩ := iota_mem.mp m
  have := h (x - a).toNat (by omega)
  have e : a + ((x - a).toNat : Int) = x := by omega
  rw [e] at this
  simp [this]
theorem comp_ix {ss : List Sh} {φ : Str → Bool} {a : Int} {n : Nat} (h0 : 0 ≤ a) (h : a.toNat + n ≤ ss.length) : compR (fun index => (atL (ss.map Sh.str) index).bind fun t => R.ok (φ t)) (fun index => R.ok index) (iota a n) = .ok ((iota a n).filter fun i => φ (ss.getD i.toNat .n).str) := by
  rw [compR_ok (q := fun i => φ (ss.getD i.toNat .n).str) (h := fun i => i)]
  · rw [List.map_id']
  · intro i m
    obtain ⟨h1, h2⟩ := iota_mem.mp m
    have hi : i.toNat < ss.length := by omega
    rw [atL_int (by omega) (by simpa using hi)]
    simp [hi]
  · intro i _ _; rfl
theorem ne_none {s : Sh} : (!decide (s.str = ("none" : Str))) = decide (s ≠ .n) := by cases s <;> rfl
theorem ne_all {s : Sh} : (!decide (s.str = ("all" : Str))) = decide (s ≠ .a) := by cases s <;> rfl
theorem eq_some {s : Sh} : decide (s.str = ("some" : Str)) = decide (s = .s) := by cases s <;> rfl
end
end PC

set_option Elab.async false
set_option linter.all false
set_option maxRecDepth 100000
/-! ML12: the typed joining of rows; reducing. -/
namespace PC
open PySem
section
variable {C : List Int}
/-- the shares by place -/
def shAt (C : List Int) (ps : List Tr) (i : Int) : Sh := (ps.map (shT C)).getD i.toNat .n
theorem shAt_get {ps : List Tr} {i : Nat} (h : i < ps.length) : shAt C ps (i : Int) = shT C ps[i] := by
  unfold shAt; simp [h]
/-- the places of the touched parts -/
def places (C : List Int) (ps : List Tr) : List Int := (iota 0 ps.length).filter fun i => decide (shAt C ps i ≠ .n)
theorem filter_one {a : Int} {q : Int → Bool} (h : q a = true) : [a].filter q = [a] := by simp [h]
theorem places_one {A B : List Tr} {p : Tr} (hA : ∀ q ∈ A, shT C q = .n) (hB : ∀ q ∈ B, shT C q = .n) (hp : shT C p ≠ .n) : places C (A ++ p :: B) = [(A.length : Int)] := by
  have hl : (A ++ p :: B).length = A.length + (1 + B.length) := by simp; omega
  unfold places
  rw [hl, iota_append, iota_append, List.filter_append, List.filter_append]
  rw [filter_iota_none, filter_iota_none (a := 0 + (A.length : Int) + (1 : Nat))]
  · have : shAt C (A ++ p :: B) (0 + (A.length : Int)) = shT C p := by
      rw [Int.zero_add, shAt_get (by simp)]; simp
    rw [Int.zero_add] at this
    simp [iota, this, hp]
  · intro i hi
    have e : (0 : Int) + (A.length : Int) + (1 : Nat) + (i : Int) = ((A.length + 1 + i : Nat) : Int) := by omega
    rw [e, shAt_get (by simp; omega)]
    have : (A ++ p :: B)[A.length + 1 + i]'(by simp; omega) = B[i] := by
      rw [List.getElem_append_right (by omega)]
      simp only [show A.length + 1 + i - A.length = i + 1 by omega, List.getElem_cons_succ]
    rw [this, hB _ (List.getElem_mem hi)]
    rfl
  · intro i hi
    rw [Int.zero_add, shAt_get (by simp; omega), List.getElem_append_left hi, hA _ (List.getElem_mem hi)]
    rfl
theorem places_len {ps : List Tr} : (places C ps).length = (tchd C ps).length := by
  unfold places tchd
  have key : ∀ (ps : List Tr) (a : Nat) (q : Int → Bool), (∀ i (h : i < ps.length), q ((a + i : Nat) : Int) = decide (shT C ps[i] ≠ .n)) → ((iota (a : Int) ps.length).filter q).length = (ps.filter fun p => decide (shT C p ≠ .n)).length := by
    intro ps
    induction ps with
    | nil => intro a q _; rfl
    | cons p r ih =>
      intro a q h
      have h0 := h 0 (by simp)
      simp only [Nat.add_zero, List.getElem_cons_zero] at h0
      have ih := ih (a + 1) q fun i hi => by
        have := h (i + 1) (by simpa using hi)
        rw [show a + 1 + i = a + (i + 1) by omega]
        simpa using this
      simp only [List.length_cons, iota, List.filter_cons, h0]
      have e : ((a : Int) + 1) = ((a + 1 : Nat) : Int) := by omega
      rw [e]
      split
      · simp only [List.length_cons]; exact congrArg (· + 1) ih
      · exact ih
  have := key ps 0 (fun i => decide (shAt C ps i ≠ .n)) fun i h => by
    rw [Nat.zero_add, shAt_get h]
  simpa using this
theorem places_ends {A I B : List Tr} {f l : Tr} (hA : ∀ q ∈ A, shT C q = .n) (hB : ∀ q ∈ B, shT C q = .n) (hf : shT C f ≠ .n) (hl : shT C l ≠ .n) : ∃ m, places C (A ++ f :: (I ++ l :: B)) = (A.length : Int) :: (m ++ [((A.length + 1 + I.length : Nat) : Int)]) := by
  have hlen : (A ++ f :: (I ++ l :: B)).length = A.length + (1 + (I.length + (1 + B.length))) := by simp; omega
  unfold places
  rw [hlen, iota_append, iota_append, iota_append, iota_append, List.filter_append, List.filter_append, List.filter_append, List.filter_append]
  refine ⟨(iota (0 + (A.length : Int) + (1 : Nat)) I.length).filter fun i => decide (shAt C (A ++ f :: (I ++ l :: B)) i ≠ .n), ?_⟩
  rw [filter_iota_none (a := 0), filter_iota_none (a := 0 + (A.length : Int) + (1 : Nat) + (I.length : Int) + (1 : Nat))]
  · have e1 : shAt C (A ++ f :: (I ++ l :: B)) (0 + (A.length : Int)) = shT C f := by
      rw [Int.zero_add, shAt_get (by simp)]; simp
    have e2 : (0 : Int) + (A.length : Int) + (1 : Nat) + (I.length : Int) = ((A.length + 1 + I.length : Nat) : Int) := by omega
    have e3 : shAt C (A ++ f :: (I ++ l :: B)) ((A.length + 1 + I.length : Nat) : Int) = shT C l := by
      rw [shAt_get (by simp; omega)]
      congr 1
      rw [List.getElem_append_right (by omega)]
      simp only [show A.length + 1 + I.length - A.length = I.length + 1 by omega, List.getElem_cons_succ]
      rw [List.getElem_append_right (by omega)]
      simp
    rw [e2]
    have e4 : (0 : Int) + (A.length : Int) = A.length := by omega
    rw [e4] at e1
    rw [e4]
    simp only [iota]
    rw [filter_one (a := (A.length : Int)) (by rw [e1]; simpa using hf), filter_one (a := ((A.length + 1 + I.length : Nat) : Int)) (by rw [e3]; simpa using hl)]
    simp
  · intro i hi
    have e : (0 : Int) + (A.length : Int) + (1 : Nat) + (I.length : Int) + (1 : Nat) + (i : Int) = ((A.length + 1 + I.length + 1 + i : Nat) : Int) := by omega
    rw [e, shAt_get (by simp; omega)]
    have : (A ++ f :: (I ++ l :: B))[A.length + 1 + I.length + 1 + i]'(by simp; omega) = B[i] := by
      rw [List.getElem_append_right (by omega)]
      simp only [show A.length + 1 + I.length + 1 + i - A.length = (I.length + 1 + i) + 1 by omega, List.getElem_cons_succ]
      rw [List.getElem_append_right (by omega)]
      simp only [show I.length + 1 + i - I.length = i + 1 by omega, List.getElem_cons_succ]
    rw [this, hB _ (List.getElem_mem hi)]
    rfl
  · intro i hi
    rw [Int.zero_add, shAt_get (by simp; omega), List.getElem_append_left hi, hA _ (List.getElem_mem hi)]
    rfl
theorem shAt_some {ps : List Tr} {i : Nat} {p : Tr} (h : ps[i]? = some p) : shAt C ps (i : Int) = shT C p := by
  obtain ⟨h1, h2⟩ := List.getElem?_eq_some_iff.mp h
  rw [shAt_get h1, h2]
theorem joined_row_ok {k : Nat} {ps : List Tr} (hf : ∀ p ∈ ps, p.Form) (hl : (leavesL ps).length ≤ 30) (hk : ∀ p ∈ ps, 2 * p.dep + 6 ≤ k) (h1 : 2 ≤ k) (h3 : 3 ≤ ps.length) (h2 : 2 ≤ (tchd C ps).length) : ∃ r, f_joined_row (k + 1) ps C = .ok r ∧ JoinOk C (.node false ps) r := by
  have hd : ∀ p ∈ ps, p.dep ≤ 31 := fun p m => by have := dep_lt p (hf p m); have := len_part m; omega
  have hlp : ∀ p ∈ ps, p.leaves.length ≤ 30 := fun p m => by have := len_part m; omega
  have pl := parts_len hf
  have sh := shares_ok (C := C) (k := k) (L := ps) (fun p m => by have := hk p m; omega) hf (fun p m => by have := hlp p m; omega)
  obtain ⟨A, f, I, l, B, hps, hA, hB, tf, tl'⟩ := two_ends h2
  have mf : f ∈ ps := by rw [hps]; simp
  have ml : l ∈ ps := by rw [hps]; simp
  have mI : ∀ p ∈ I, p ∈ ps := fun p m => by rw [hps]; simp [m]
  have hlen : ps.length = A.length + 1 + I.length + 1 + B.length := by rw [hps]; simp; omega
  have gf : ps[A.length]? = some f := by rw [hps]; simp
  have gI : ∀ j (h : j < I.length), ps[A.length + 1 + j]? = some I[j] := fun j h => by
    rw [hps, List.getElem?_append_right (by omega)]
    simp only [show A.length + 1 + j - A.length = j + 1 by omega, List.getElem?_cons_succ]
    rw [List.getElem?_append_left h, List.getElem?_eq_getElem h]
  have gl : ps[A.length + 1 + I.length]? = some l := by
    rw [hps, List.getElem?_append_right (by omega)]
    simp only [show A.length + 1 + I.length - A.length = I.length + 1 by omega, List.getElem?_cons_succ]
    rw [List.getElem?_append_right (by omega)]
    simp
  obtain ⟨m, hpl⟩ := places_ends (C := C) (I := I) hA hB tf tl'
  rw [← hps] at hpl
  have cA : ps.take A.length = A := by rw [hps]; simp
  have cB : ps.drop (A.length + 1 + I.length + 1) = B := by
    have : ps = (A ++ [f] ++ I ++ [l]) ++ B := by rw [hps]; simp
    rw [this, List.drop_append_of_le_length (by simp; omega)]
    rw [List.drop_eq_nil_of_le (by simp; omega), List.nil_append]
  have none_ : ((∃ p ∈ I, shT C p ≠ .a) ∨ SplitOk C f none ∨ SplitOk C l none) → JoinOk C (.node false ps) none := fun h => by
    rw [hps]; exact row_join_none (by rw [← hps]; exact hf) hA hB tf tl' h
  have some_ : ∀ Xf Xl, (∀ p ∈ I, shT C p = .a) → End1 C f Xf → End1 C l Xl → JoinOk C (.node false ps) (some (mkRow (A ++ Xf ++ I ++ Xl.reverse ++ B))) := fun Xf Xl hI e1 e2 => by
    rw [hps]; exact row_join (by rw [← hps]; exact hf) hA hB tf tl' hI (by rw [← hps]; exact h3) e1 e2
  clear hps
  -- the places
  have e1 : compR (fun index => (atL ((ps.map (shT C)).map Sh.str) index).bind fun t => R.ok (!decide (t = ("none" : Str)))) (fun index => R.ok index) (iota 0 ps.length) = .ok (places C ps) := by
    rw [comp_ix (φ := fun t => !decide (t = ("none" : Str))) (by omega) (by simp)]
    congr 1
    apply List.filter_congr
    intro i _
    rw [ne_none]; rfl
  have e2 : atL (places C ps) 0 = .ok (A.length : Int) := by rw [hpl]; exact atL_zero (by simp)
  have e3 : atL (places C ps) (-1) = .ok ((A.length + 1 + I.length : Nat) : Int) := by
    have q : (A.length : Int) :: (m ++ [((A.length + 1 + I.length : Nat) : Int)]) = ((A.length : Int) :: m) ++ [((A.length + 1 + I.length : Nat) : Int)] := rfl
    rw [hpl, q, atL_last (by simp), List.getLast_concat]
  have e4 : rng ((A.length : Int) + 1) ((A.length + 1 + I.length : Nat) : Int) = .ok (iota ((A.length : Int) + 1) I.length) := by
    rw [rng_ok (by omega) (by omega) (by omega) (by omega)]
    congr 2
    omega
  have e5 : compR (fun index1 => (atL ((ps.map (shT C)).map Sh.str) index1).bind fun t2 => R.ok (!decide (t2 = ("all" : Str)))) (fun index1 => R.ok index1) (iota ((A.length : Int) + 1) I.length) = .ok ((iota ((A.length : Int) + 1) I.length).filter fun i => decide (shAt C ps i ≠ .a)) := by
    rw [comp_ix (φ := fun t => !decide (t = ("all" : Str))) (by omega) (by simp; omega)]
    congr 1
    apply List.filter_congr
    intro i _
    rw [ne_all]; rfl
  have e6 : rng (A.length : Int) (((A.length + 1 + I.length : Nat) : Int) + 1) = .ok (iota (A.length : Int) (I.length + 2)) := by
    rw [rng_ok (by omega) (by omega) (by omega) (by omega)]
    congr 2
    omega
  simp only [f_joined_row, sh, letR_ok, rng0 (show ps.length ≤ 1000000 by omega), bnd_ok, e1, e2, e3, e4, e5, cnd_ok, cut_take (show (0 : Int) ≤ A.length by omega), Int.toNat_natCast, cA]
  by_cases hI : ∀ p ∈ I, shT C p = .a
  · have z : ((iota ((A.length : Int) + 1) I.length).filter fun i => decide (shAt C ps i ≠ .a)) = [] := filter_iota_none fun j hj => by
      have e : ((A.length : Int) + 1 + (j : Int)) = ((A.length + 1 + j : Nat) : Int) := by omega
      rw [e, shAt_some (gI j hj), hI _ (List.getElem_mem hj)]
      rfl
    have cB' : ps.drop (((A.length + 1 + I.length : Nat) : Int) + 1).toNat = B := by
      rw [show (((A.length + 1 + I.length : Nat) : Int) + 1).toNat = A.length + 1 + I.length + 1 by omega]; exact cB
    simp only [z, decide_true, Bool.not_true, Bool.false_eq_true, if_false, e6, letR_ok, cut_drop (show (0 : Int) ≤ ((A.length + 1 + I.length : Nat) : Int) + 1 by omega), cB']
    -- the two ends
    have ends : ∀ t, t ∈ ps → shT C t ≠ .n → (shT C t = .a ∧ End1 C t [t]) ∨ (shT C t = .s ∧ ∃ r, f_split k t C = .ok r ∧ SplitOk C t r) := fun t m ht => by
      cases q : shT C t with
      | n => exact absurd q ht
      | a => exact .inl ⟨rfl, end1_full (hf t m) ((sh_a (hf t m)).mp q)⟩
      | s => exact .inr ⟨rfl, split_ok (hk t m) (hf t m) (hd t m) (by have := hlp t m; omega) q⟩
    have shf : ∀ (i : Nat) (p : Tr), ps[i]? = some p → atL ((ps.map (shT C)).map Sh.str) (i : Int) = .ok (shT C p).str := fun i p h => atL_nat (by simp [h])
    have psf : ∀ (i : Nat) (p : Tr), ps[i]? = some p → atL ps (i : Int) = .ok p := fun i p h => atL_nat h
    have itg : ∀ i (h : i < (iota (A.length : Int) (I.length + 2)).length), (iota (A.length : Int) (I.length + 2))[i] = ((A.length + i : Nat) : Int) := fun i h => by rw [iota_getE h]; omega
    -- what an end becomes: none, or a list
    have endR : ∀ t, t ∈ ps → shT C t ≠ .n → SplitOk C t none ∧ shT C t = .s ∧ f_split k t C = .ok none ∨ ∃ X, End1 C t X ∧ X.length ≤ 30 ∧ (shT C t = .a ∧ X = [t] ∨ shT C t = .s ∧ f_split k t C = .ok (some X)) := fun t m ht => by
      rcases ends t m ht with ⟨c, e⟩ | ⟨c, r, e, h⟩
      · exact .inr ⟨[t], e, by simp, .inl ⟨c, rfl⟩⟩
      · cases r with
        | none => exact .inl ⟨h, c, e⟩
        | some X => exact .inr ⟨X, h.end1, end_len h (hlp t m), .inr ⟨c, e⟩⟩
    have ssA : decide (Sh.a.str = ("some" : Str)) = false := rfl
    have ssS : decide (Sh.s.str = ("some" : Str)) = true := rfl
    have ff : ∀ x y : Nat, x ≠ y → decide (((x : Nat) : Int) = ((y : Nat) : Int)) = false := fun x y h => by simp; omega
    rcases endR f mf tf with ⟨nf, cf, ef⟩ | ⟨Xf, oXf, lXf, hXf⟩
    · -- the first part cannot be split
      refine seq_gen (G := fun x => ∃ r, Fl.run x (.ok none) = .ok r ∧ JoinOk C (.node false ps) r) (fun i s => i = 0) rfl (fun i hi s h0 => ?_) fun s h0 => ?_
      · subst h0
        right; right; left
        refine ⟨none, ?_, none, rfl, none_ (.inr (.inl nf))⟩
        rw [itg 0 hi]
        simp only [Nat.add_zero, psf _ _ gf, shf _ _ gf, bnd_ok, letR_ok, cf, ssS, cnd_ok, if_true, ef, Option.isNone_none, seq_rt]
      · rw [iota_len] at h0; omega
    · rcases endR l ml tl' with ⟨nl, cl, el⟩ | ⟨Xl, oXl, lXl, hXl⟩
      · -- the last part cannot be split
        refine seq_gen (G := fun x => ∃ r, Fl.run x (.ok none) = .ok r ∧ JoinOk C (.node false ps) r) (fun i s => i ≤ I.length + 1 ∧ s.length ≤ 60 + 31 * i) ⟨by omega, by omega⟩ (fun i hi s ⟨h0, hs⟩ => ?_) fun s ⟨h0, _⟩ => ?_
        · rw [itg i hi]
          by_cases ci : i = I.length + 1
          · right; right; left
            refine ⟨none, ?_, none, rfl, none_ (.inr (.inr nl))⟩
            have e : A.length + i = A.length + 1 + I.length := by omega
            rw [e]
            simp only [psf _ _ gl, shf _ _ gl, bnd_ok, letR_ok, cl, ssS, cnd_ok, if_true, el, Option.isNone_none, seq_rt]
          · left
            by_cases c0 : i = 0
            · subst c0
              simp only [Nat.add_zero, psf _ _ gf, shf _ _ gf, bnd_ok, letR_ok]
              rcases hXf with ⟨cf, rfl⟩ | ⟨cf, ef⟩
              · simp only [cf, ssA, cnd_ok, Bool.false_eq_true, if_false, seq_nx, optG, letR_ok]
                rw [extL_ok (by simp; omega)]
                exact ⟨_, rfl, by omega, by simp; omega⟩
              · simp only [cf, ssS, cnd_ok, if_true, ef, letR_ok, Option.isNone_some, Bool.false_eq_true, if_false, ff A.length (A.length + 1 + I.length) (by omega), seq_nx, optG]
                rw [extL_ok (by omega)]
                exact ⟨_, rfl, by omega, by simp; omega⟩
            · have hj : i - 1 < I.length := by omega
              have g := gI (i - 1) hj
              rw [show A.length + 1 + (i - 1) = A.length + i by omega] at g
              simp only [psf _ _ g, shf _ _ g, bnd_ok, letR_ok, hI _ (List.getElem_mem hj), ssA, cnd_ok, Bool.false_eq_true, if_false, seq_nx, optG]
              rw [extL_ok (by simp; omega)]
              exact ⟨_, rfl, by omega, by simp; omega⟩
        · rw [iota_len] at h0; omega
      · -- both ends can
        refine seq_inv (G := fun x => ∃ r, Fl.run x (.ok none) = .ok r ∧ JoinOk C (.node false ps) r) (fun i s => (i = 0 → s = A) ∧ (∀ j, i = j + 1 → j ≤ I.length → s = A ++ Xf ++ I.take j) ∧ (i = I.length + 2 → s = A ++ Xf ++ I ++ Xl.reverse)) ⟨fun _ => rfl, fun j e => by omega, fun e => by omega⟩ (fun i hi s ⟨p0, p1, p2⟩ => ?_) fun s ⟨_, _, p2⟩ => ?_
        · rw [itg i hi]
          rw [iota_len] at hi
          by_cases ci : i = I.length + 1
          · have hs := p1 I.length ci (Nat.le_refl _)
            rw [List.take_length] at hs
            have sl : s.length ≤ 100 := by rw [hs]; simp only [List.length_append]; omega
            have e : A.length + i = A.length + 1 + I.length := by omega
            rw [e]
            simp only [psf _ _ gl, shf _ _ gl, bnd_ok, letR_ok]
            refine ⟨s ++ Xl.reverse, ?_, by omega, fun j e1 e2 => by omega, fun _ => by rw [hs]⟩
            rcases hXl with ⟨cl, rfl⟩ | ⟨cl, el⟩
            · simp only [cl, ssA, cnd_ok, Bool.false_eq_true, if_false, seq_nx, optG, letR_ok]
              rw [extL_ok (by simp; omega)]
              rfl
            · simp only [cl, ssS, cnd_ok, if_true, el, letR_ok, Option.isNone_some, Bool.false_eq_true, if_false, decide_true, optG, bnd_ok, seq_nx]
              rw [extL_ok (by simp; omega)]
          · by_cases c0 : i = 0
            · subst c0
              have hs := p0 rfl
              have sl : s.length ≤ 100 := by rw [hs]; omega
              simp only [Nat.add_zero, psf _ _ gf, shf _ _ gf, bnd_ok, letR_ok]
              refine ⟨s ++ Xf, ?_, by omega, fun j e1 e2 => by
                have : j = 0 := by omega
                subst this
                rw [hs]; simp, by omega⟩
              rcases hXf with ⟨cf, rfl⟩ | ⟨cf, ef⟩
              · simp only [cf, ssA, cnd_ok, Bool.false_eq_true, if_false, seq_nx, optG, letR_ok]
                rw [extL_ok (by simp; omega)]
              · simp only [cf, ssS, cnd_ok, if_true, ef, letR_ok, Option.isNone_some, Bool.false_eq_true, if_false, ff A.length (A.length + 1 + I.length) (by omega), seq_nx, optG]
                rw [extL_ok (by omega)]
            · have hj : i - 1 < I.length := by omega
              have hs := p1 (i - 1) (by omega) (by omega)
              have sl : s.length ≤ 100 := by rw [hs]; simp only [List.length_append, List.length_take]; omega
              have g := gI (i - 1) hj
              rw [show A.length + 1 + (i - 1) = A.length + i by omega] at g
              simp only [psf _ _ g, shf _ _ g, bnd_ok, letR_ok, hI _ (List.getElem_mem hj), ssA, cnd_ok, Bool.false_eq_true, if_false, seq_nx, optG]
              rw [extL_ok (by simp; omega)]
              refine ⟨_, rfl, by omega, fun j e1 e2 => ?_, by omega⟩
              have : j = (i - 1) + 1 := by omega
              rw [this, List.take_succ, List.getElem?_eq_getElem hj, hs]
              simp
        · rw [iota_len] at p2
          have hs := p2 rfl
          subst hs
          have := lXf
          rw [extL_ok (by simp only [List.length_append, List.length_reverse]; omega)]
          have ne : A ++ Xf ++ I ++ Xl.reverse ++ B ≠ [] := fun e => by
            simp only [List.append_eq_nil_iff] at e
            exact oXf.ne e.1.1.1.2
          rw [make_row_eq h1 ne]
          exact ⟨_, rfl, some_ Xf Xl hI oXf oXl⟩
  · have hI' : ∃ p ∈ I, shT C p ≠ .a := by
      by_cases q : ∃ p ∈ I, shT C p ≠ .a
      · exact q
      · exact absurd (fun p m => by
          by_cases c : shT C p = .a
          · exact c
          · exact absurd ⟨p, m, c⟩ q) hI
    have z : ((iota ((A.length : Int) + 1) I.length).filter fun i => decide (shAt C ps i ≠ .a)) ≠ [] := by
      obtain ⟨p, mp, hp⟩ := hI'
      obtain ⟨j, hj, rfl⟩ := List.mem_iff_getElem.mp mp
      intro e
      rw [List.filter_eq_nil_iff] at e
      have := e ((A.length + 1 + j : Nat) : Int) (iota_mem.mpr (by omega))
      rw [shAt_some (gI j hj)] at this
      simp [hp] at this
    exact ⟨none, by simp only [z, decide_false, Bool.not_false, if_true, run_rt], none_ (.inl hI')⟩
/-! ### joining, reducing -/
theorem joined_ok : ∀ {t : Tr} {k : Nat}, 2 * t.dep + 8 ≤ k → t.Form → t.leaves.length ≤ 30 → shT C t ≠ .n → ∃ r, f_joined k t C = .ok r ∧ JoinOk C t r := by
  intro t
  induction t using Tr.ind with
  | hl i =>
    intro k hk hf hl ht
    obtain ⟨k, rfl, hk1⟩ := succ_of hk
    refine ⟨some (.leaf i), ?_, join_leaf⟩
    simp only [f_joined, is_thing_ok (show 1 ≤ k by omega), Tr.isLeaf, bnd_ok, if_true, cnd_ok, letR_ok, run_rt]
  | hn w ps ih =>
    intro k hk hf hl ht
    obtain ⟨f1, f2, f3⟩ := Form_node.mp hf
    obtain ⟨k, rfl, hk1⟩ := succ_of hk
    have hsh := share_ok (C := C) (k := k) (t := .node w ps) (by omega) hf (by omega)
    have hlp : ∀ p ∈ ps, p.leaves.length ≤ 30 := fun p m => by rw [leaves_node] at hl; have := len_part m; omega
    have hpl := parts_len f3
    rw [leaves_node] at hl
    simp only [f_joined, is_thing_ok (show 1 ≤ k by omega), Tr.isLeaf, bnd_ok, Bool.false_eq_true, if_false, hsh, cnd_ok]
    by_cases ca : shT C (.node w ps) = .a
    · refine ⟨some (.node w ps), ?_, join_full hf ((sh_a hf).mp ca)⟩
      have : decide ((shT C (.node w ps)).str = ("all" : Str)) = true := by rw [ca]; rfl
      simp only [this, if_true, letR_ok, run_rt]
    · have ca' : decide ((shT C (.node w ps)).str = ("all" : Str)) = false := by
        cases q : shT C (.node w ps)
        · rfl
        · rfl
        · exact absurd q ca
      have e1 : compR (fun index => (((atL ps index).bind fun t2 => f_share k t2 C)).bind fun t3 => R.ok (!decide (t3 = ("none" : Str)))) (fun index => R.ok index) (iota 0 ps.length) = .ok (places C ps) := by
        rw [compR_ok (q := fun i => decide (shAt C ps i ≠ .n)) (h := fun i => i)]
        · rw [List.map_id']; rfl
        · intro i mi
          obtain ⟨h1, h2⟩ := iota_mem.mp mi
          have hi : i.toNat < ps.length := by omega
          have ei : i = (i.toNat : Int) := by omega
          rw [ei, atL_get hi, bnd_ok, share_ok (by have := dep_part (w := w) (List.getElem_mem hi); omega) (f3 _ (List.getElem_mem hi)) (by have := hlp _ (List.getElem_mem hi); omega), bnd_ok, ne_none, shAt_get hi]
        · intro i _ _; rfl
      simp only [ca', Bool.false_eq_true, if_false, Tr.node_, letR_ok, rng0 (show ps.length ≤ 1000000 by omega), bnd_ok, e1, places_len]
      have t1 : 1 ≤ (tchd C ps).length := by
        have hex : ∃ p ∈ ps, shT C p ≠ .n := by
          obtain ⟨x, mx, hx⟩ := sh_tch.mp ht
          rw [leaves_node] at mx
          obtain ⟨p, mp, mx⟩ := mem_leavesL.mp mx
          exact ⟨p, mp, sh_tch.mpr ⟨x, mx, hx⟩⟩
        obtain ⟨p, mp, hp⟩ := hex
        exact List.length_pos_iff.mpr (List.ne_nil_of_mem (tchd_mem.mpr ⟨mp, hp⟩))
      by_cases c1 : (tchd C ps).length = 1
      · have c1' : (((tchd C ps).length : Nat) : Int) = 1 := by omega
        simp only [c1', decide_true, if_true]
        have hex : ∃ p ∈ ps, shT C p ≠ .n := by
          match hq : tchd C ps, c1 with
          | [p], _ =>
            have : p ∈ tchd C ps := by rw [hq]; simp
            exact ⟨p, (tchd_mem.mp this).1, (tchd_mem.mp this).2⟩
        obtain ⟨A, p, B, hps, hA, hp⟩ := first_touched hex
        have hB : ∀ q ∈ B, shT C q = .n := fun q m => by
          by_cases c : shT C q = .n
          · exact c
          · exfalso
            have e : tchd C ps = p :: tchd C B := by
              rw [hps, tchd_append, tchd_free hA]
              unfold tchd
              rw [List.filter_cons, if_pos (by simpa using hp)]; rfl
            rw [e] at c1
            have : q ∈ tchd C B := tchd_mem.mpr ⟨m, c⟩
            have : 0 < (tchd C B).length := List.length_pos_iff.mpr (List.ne_nil_of_mem this)
            rw [List.length_cons] at c1; omega
        have mp : p ∈ ps := by rw [hps]; simp
        obtain ⟨r, er, hr⟩ := ih p mp (k := k) (by have := dep_part (w := w) mp; omega) (f3 p mp) (hlp p mp) hp
        have e2 : atL (places C ps) 0 = .ok (A.length : Int) := by rw [hps, places_one hA hB hp]; rfl
        have e3 : atL ps (A.length : Int) = .ok p := atL_nat (by rw [hps]; simp)
        have cA : ps.take A.length = A := by rw [hps]; simp
        have cB : ps.drop ((A.length : Int) + 1).toNat = B := by
          have : ps = (A ++ [p]) ++ B := by rw [hps]; simp
          rw [show ((A.length : Int) + 1).toNat = A.length + 1 by omega, this, List.drop_append_of_le_length (by simp)]
          rw [List.drop_eq_nil_of_le (by simp), List.nil_append]
        have hAB : ∀ q ∈ A ++ B, shT C q = .n := fun q m => by
          rw [List.mem_append] at m
          rcases m with m | m
          · exact hA q m
          · exact hB q m
        have key := join_one (w := w) (A := A) (B := B) (p := p) (r := r) (by rw [← hps]; exact hf) hAB hr
        rw [← hps] at key
        have lA : A.length + 1 + B.length = ps.length := by rw [hps]; simp; omega
        simp only [e2, bnd_ok, e3, er, letR_ok]
        cases r with
        | none => exact ⟨none, by simp only [Option.isNone_none, if_true, run_rt], key⟩
        | some p' =>
          simp only [Option.isNone_some, Bool.false_eq_true, if_false, cut_take (show (0 : Int) ≤ A.length by omega), cut_drop (show (0 : Int) ≤ (A.length : Int) + 1 by omega), Int.toNat_natCast, cA, cB, optG, bnd_ok]
          rw [catL_ok (by simp; omega), bnd_ok, catL_ok (by simp; omega), bnd_ok]
          refine ⟨some (.node w (A ++ p' :: B)), ?_, key⟩
          simp
      · have c2 : 2 ≤ (tchd C ps).length := by omega
        have c1' : ¬ (((tchd C ps).length : Nat) : Int) = 1 := by omega
        simp only [c1', decide_false, Bool.false_eq_true, if_false]
        obtain ⟨k, rfl, hk2⟩ := succ_of (show 1 ≤ k by omega)
        have hk6 : ∀ p ∈ ps, 2 * p.dep + 6 ≤ k := fun p m => by have := dep_part (w := w) m; omega
        cases w with
        | true =>
          obtain ⟨r, er, hr⟩ := joined_any_ok (C := C) f3 hl hk6 (by omega) c2
          exact ⟨r, by simp only [if_true, er, letR_ok, run_rt], hr⟩
        | false =>
          obtain ⟨r, er, hr⟩ := joined_row_ok (C := C) f3 hl hk6 (by omega) (f2 rfl) c2
          exact ⟨r, by simp only [Bool.false_eq_true, if_false, er, letR_ok, run_rt], hr⟩
/-- what is asked of a reduced tree -/
def RedOk (C : List Int) (t : Tr) : Option Tr → Prop
  | none => ∀ o, Told t o → ¬ Tog C o
  | some r => r.Norm ∧ r.Form ∧ r.leaves.Perm t.leaves ∧ ∀ o, Told r o ↔ Told t o ∧ Tog C o
theorem tog_short {o : List Int} (h : C.length < 2) (hn : o.Nodup) : Tog C o := by
  intro x y z s hx hz
  match C, h with
  | [], _ => cases hx
  | [c], _ =>
    simp only [List.mem_singleton] at hx hz
    subst hx hz
    have := s.nodup hn
    simp at this
theorem reduced_by_ok {k : Nat} {t : Tr} (hk : 2 * t.dep + 70 ≤ k) (hf : t.Form) (hn : t.leaves.Nodup) (hl : t.leaves.length ≤ 24) (hC : ∀ x ∈ C, x ∈ t.leaves) : ∃ r, f_reduced_by k t C = .ok r ∧ RedOk C t r := by
  obtain ⟨k, rfl, hk1⟩ := succ_of hk
  by_cases c : C.length < 2
  · have c' : (C.length : Int) < 2 := by omega
    refine ⟨some t.norm, ?_, norm_Norm t, (norm_same t).form hf, (norm_same t).leaves, fun o => ?_⟩
    · simp only [f_reduced_by, c', decide_true, cnd_ok, if_true, normalized_ok (show 2 * t.dep + 5 ≤ k by omega) hf hn (by omega), bnd_ok, letR_ok, run_rt]
    · rw [told_norm]
      exact ⟨fun h => ⟨h, tog_short c (h.perm.nodup_iff.mpr hn)⟩, fun h => h.1⟩
  · have c' : ¬ (C.length : Int) < 2 := by omega
    have ht : shT C t ≠ .n := by
      match C, c, hC with
      | x :: r, _, hC => exact sh_tch.mpr ⟨x, hC x (by simp), by simp⟩
      | [], c, _ => simp at c
    obtain ⟨r, er, hr⟩ := joined_ok (C := C) (t := t) (k := k) (by omega) hf (by omega) ht
    simp only [f_reduced_by, c', decide_false, cnd_ok, Bool.false_eq_true, if_false, er, letR_ok]
    cases r with
    | none => exact ⟨none, by simp only [Option.isNone_none, if_true, run_rt], hr⟩
    | some r =>
      obtain ⟨g1, g2, g3⟩ := hr
      have e := g2.length_eq
      have d := dep_lt r g1
      refine ⟨some r.norm, ?_, norm_Norm r, (norm_same r).form g1, (norm_same r).leaves.trans g2, fun o => by rw [told_norm]; exact g3 o⟩
      simp only [Option.isNone_some, Bool.false_eq_true, if_false, optG, bnd_ok, normalized_ok (show 2 * r.dep + 5 ≤ k by omega) g1 (g2.nodup_iff.mpr hn) (by omega), letR_ok, run_rt]
end
end PC

set_option Elab.async false
set_option linter.all false
set_option maxRecDepth 100000
/-! ML13: the laws' own reading of what a tree tells. -/
namespace PC
open PySem
/-- part i is the next one -/
def NextP (ps : List Tr) (s : List Int × List Int) (i : Nat) : Prop := ∃ p, ps[i]? = some p ∧ (i : Int) ∉ s.2 ∧ (s.1.take p.leaves.length).Perm p.leaves
theorem step_of {σ ρ : Type} {x : Fl σ ρ} {P : σ → Prop} {B : σ → Prop} {Rt : ρ → Prop} {Ex : _ → Prop} (h : (∃ s', x = .nx s' ∧ P s') ∨ ∃ v, x = .rt v ∧ Rt v) : (∃ s', x = .nx s' ∧ P s') ∨ (∃ s', x = .bk s' ∧ B s') ∨ (∃ v, x = .rt v ∧ Rt v) ∨ ∃ c, x = .ex c ∧ Ex c := by
  rcases h with h | h
  · exact .inl h
  · exact .inr (.inr (.inl h))
theorem perm_of_sub : ∀ {a b : List Int}, a.Nodup → (∀ x ∈ a, x ∈ b) → b.length ≤ a.length → a.Perm b
  | [], b, _, _, h => by
    have : b = [] := List.length_eq_zero_iff.mp (by simpa using h)
    rw [this]
  | x :: a, b, hn, hs, hl => by
    have m := hs x List.mem_cons_self
    obtain ⟨n1, n2⟩ := List.nodup_cons.mp hn
    refine ((perm_of_sub n2 (b := b.erase x) (fun y hy => ?_) ?_).cons x).trans (List.perm_cons_erase m).symm
    · exact (List.mem_erase_of_ne (by rintro rfl; exact n1 hy)).mpr (hs y (List.mem_cons_of_mem _ hy))
    · rw [List.length_erase_of_mem m]
      simp at hl
      omega
open Classical in
theorem told_loop {k : Nat} {w : Bool} {ps : List Tr} {o : List Int} {res : Bool} (Inv : Nat → List Int × List Int → Prop) (hps : ps.length ≤ 1000)
    (things : ∀ p ∈ ps, f_law_things k p = .ok p.leaves) (told : ∀ p ∈ ps, ∀ b, b.Perm p.leaves → f_law_told k p b = .ok (decide (Told p b)))
    (h0 : Inv 0 (o, [])) (hlen : ∀ i s, Inv i s → s.2.length ≤ i)
    (hN : ∀ i s, i < ps.length → Inv i s → (∀ j, ¬ NextP ps s j) → Inv (i + 1) s)
    (hM : ∀ i s j p, i < ps.length → Inv i s → ps[j]? = some p → NextP ps s j → Told p (s.1.take p.leaves.length) → Inv (i + 1) (s.1.drop p.leaves.length, s.2 ++ [(j : Int)]))
    (hF : ∀ i s j p, i < ps.length → Inv i s → ps[j]? = some p → NextP ps s j → ¬ Told p (s.1.take p.leaves.length) → res = false)
    (hK : ∀ s, Inv ps.length s → (if s.2.length < ps.length ∨ 0 < s.1.length then false else (w || (decide (s.2 = isort s.2) || decide (s.2 = (isort s.2).reverse)))) = res) :
    f_law_told (k + 1) (.node w ps) o = .ok res := by
  simp only [f_law_told, Tr.isLeaf, cnd_ok, Bool.false_eq_true, if_false, letR_ok, Tr.parts, bnd_ok, rng0 (show ps.length ≤ 1000000 by omega), Tr.word]
  refine seq_gen (G := fun x => Fl.run x .st = .ok res) Inv h0 (fun i hi s hs => ?_) fun s hs => ?_
  · rw [iota_len] at hi
    have sl := hlen i s hs
    refine step_of ?_
    refine seq_gen (G := fun x => (∃ s', x = .nx s' ∧ Inv (i + 1) s') ∨ ∃ v, x = .rt v ∧ Fl.run (.rt v) .st = .ok res) (fun j s' => s' = s ∧ ∀ j' < j, ¬ NextP ps s j') ⟨rfl, fun j h => by omega⟩ (fun j hj s' hh => ?_) fun s' hh => ?_
    · obtain ⟨e, hno⟩ := hh
      subst e
      rw [iota_getE hj]
      rw [iota_len] at hj
      have ej : (0 : Int) + (j : Int) = (j : Int) := by omega
      rw [ej]
      have gp : ps[j]? = some ps[j] := List.getElem?_eq_getElem hj
      have mp : ps[j] ∈ ps := List.getElem_mem hj
      have ga : atL ps (j : Int) = .ok ps[j] := atL_nat gp
      simp only [ga, bnd_ok, things _ mp, letR_ok, cut_take (show (0 : Int) ≤ ps[j].leaves.length by omega), cut_drop (show (0 : Int) ≤ ps[j].leaves.length by omega), Int.toNat_natCast]
      by_cases cm : NextP ps s' j
      · obtain ⟨p, hp, h1, h2⟩ := cm
        rw [gp] at hp
        cases hp
        have b1 : (!memB (j : Int) s'.2) = true := by simp [h1]
        have b2 : decide (isort (s'.1.take ps[j].leaves.length) = isort ps[j].leaves) = true := decide_eq_true (isort_eq h2)
        simp only [b1, b2, if_true, cnd_ok, told _ mp _ h2, bnd_ok]
        have cm : NextP ps s' j := ⟨_, gp, h1, h2⟩
        by_cases ct : Told ps[j] (s'.1.take ps[j].leaves.length)
        · right; left
          refine ⟨(s'.1.drop ps[j].leaves.length, s'.2 ++ [(j : Int)]), ?_, .inl ⟨_, rfl, hM i s' j _ hi hs gp cm ct⟩⟩
          simp only [ct, decide_true, Bool.not_true, Bool.false_eq_true, if_false]
          rw [appL_ok (by omega)]
        · right; right; left
          refine ⟨false, by simp only [ct, decide_false, Bool.not_false, if_true], .inr ⟨false, rfl, ?_⟩⟩
          rw [hF i s' j _ hi hs gp cm ct]; rfl
      · left
        refine ⟨s', ?_, rfl, fun j' h => ?_⟩
        · by_cases c1 : (j : Int) ∈ s'.2
          · have b1 : (!memB (j : Int) s'.2) = false := by simp [c1]
            simp only [b1, Bool.false_eq_true, if_false, cnd_ok]
          · have b1 : (!memB (j : Int) s'.2) = true := by simp [c1]
            have b2 : decide (isort (s'.1.take ps[j].leaves.length) = isort ps[j].leaves) = false := by
              rw [decide_eq_false_iff_not]
              intro e
              exact cm ⟨_, gp, c1, isort_iff.mp e⟩
            simp only [b1, b2, if_true, Bool.false_eq_true, if_false, cnd_ok]
        · by_cases c : j' = j
          · rw [c]; exact cm
          · exact hno j' (by omega)
    · obtain ⟨e, hno⟩ := hh
      subst e
      rw [iota_len] at hno
      refine .inl ⟨_, rfl, hN i s' hi hs fun j cm => ?_⟩
      obtain ⟨p, hp, _⟩ := id cm
      exact hno j (List.getElem?_eq_some_iff.mp hp).1 cm
  · rw [iota_len] at hs
    have := hK s hs
    by_cases c : s.2.length < ps.length ∨ 0 < s.1.length
    · rw [if_pos c] at this
      have : (decide ((s.2.length : Int) < (ps.length : Int)) || decide ((0 : Int) < (s.1.length : Int))) = true := by
        rw [Bool.or_eq_true]
        rcases c with c | c
        · exact .inl (decide_eq_true (by omega))
        · exact .inr (decide_eq_true (by omega))
      simp only [this, if_true, run_rt]
      rw [← hK s hs, if_pos c]
    · rw [if_neg c] at this
      have b : (decide ((s.2.length : Int) < (ps.length : Int)) || decide ((0 : Int) < (s.1.length : Int))) = false := by
        rw [Bool.or_eq_false_iff]
        exact ⟨decide_eq_false (by omega), decide_eq_false (by omega)⟩
      simp only [b, Bool.false_eq_true, if_false, run_rt, this]
/-- disjoint parts -/
theorem parts_disj {ps : List Tr} (hn : (leavesL ps).Nodup) {i j : Nat} {p q : Tr} (hi : ps[i]? = some p) (hj : ps[j]? = some q) {x : Int} (h1 : x ∈ p.leaves) (h2 : x ∈ q.leaves) : i = j := by
  induction ps generalizing i j with
  | nil => simp at hi
  | cons t r ih =>
    rw [leavesL_cons] at hn
    obtain ⟨n1, n2, n3⟩ := List.nodup_append.mp hn
    cases i with
    | zero =>
      cases j with
      | zero => rfl
      | succ j =>
        simp at hi hj
        subst hi
        exact absurd rfl (n3 x h1 x (mem_leavesL.mpr ⟨q, List.mem_of_getElem? hj, h2⟩))
    | succ i =>
      cases j with
      | zero =>
        simp at hi hj
        subst hj
        exact absurd rfl (n3 x h2 x (mem_leavesL.mpr ⟨p, List.mem_of_getElem? hi, h1⟩))
      | succ j =>
        have := ih n2 (i := i) (j := j) (by simpa using hi) (by simpa using hj)
        omega
/-- a list of places of the parts -/
def byIx (ps : List Tr) (l : List Int) : List Tr := l.map fun i => ps.getD i.toNat (.leaf 0)
theorem byIx_iota (ps : List Tr) : byIx ps (iota 0 ps.length) = ps := by
  unfold byIx
  apply List.ext_getElem?
  intro i
  rw [List.getElem?_map, iota_get?]
  by_cases h : i < ps.length
  · simp [h]
  · simp [h]
theorem byIx_perm {ps : List Tr} {l : List Int} (h : l.Perm (iota 0 ps.length)) : (byIx ps l).Perm ps := by
  have := h.map fun i => ps.getD i.toNat (Tr.leaf 0)
  exact this.trans (by rw [show (iota 0 ps.length).map (fun i => ps.getD i.toNat (Tr.leaf 0)) = byIx ps (iota 0 ps.length) from rfl, byIx_iota])
theorem perm_byIx {ps qs : List Tr} (h : qs.Perm ps) : ∃ l, l.Perm (iota 0 ps.length) ∧ qs = byIx ps l := by
  have key : ∀ {a b : List Tr}, a.Perm b → ∀ l : List Int, b = byIx ps l → ∃ l', l'.Perm l ∧ a = byIx ps l' := by
    intro a b h
    induction h with
    | nil => intro l e; exact ⟨[], by cases l with | nil => exact .refl _ | cons x r => simp [byIx] at e, rfl⟩
    | cons x _ ih =>
      intro l e
      cases l with
      | nil => simp [byIx] at e
      | cons y r =>
        simp only [byIx, List.map_cons, List.cons.injEq] at e
        obtain ⟨l', p, e2⟩ := ih r e.2
        exact ⟨y :: l', p.cons y, by simp only [byIx, List.map_cons]; rw [e.1, e2]; rfl⟩
    | swap x y t =>
      intro l e
      match l, e with
      | a :: b :: r, e =>
        simp only [byIx, List.map_cons, List.cons.injEq] at e
        exact ⟨b :: a :: r, .swap _ _ _, by simp only [byIx, List.map_cons]; rw [e.1, e.2.1, e.2.2]⟩
      | [a], e => simp [byIx] at e
      | [], e => simp [byIx] at e
    | trans _ _ ih1 ih2 =>
      intro l e
      obtain ⟨l2, p2, e2⟩ := ih2 l e
      obtain ⟨l1, p1, e1⟩ := ih1 l2 e2
      exact ⟨l1, p1.trans p2, e1⟩
  exact key h _ (byIx_iota ps).symm
theorem byIx_append {ps : List Tr} {a b : List Int} : byIx ps (a ++ b) = byIx ps a ++ byIx ps b := by unfold byIx; rw [List.map_append]
theorem iota_rev_sorted {l : List Int} {n : Nat} (h : l.Perm (iota 0 n)) : isort l = iota 0 n := isort_iota.mpr h
open Classical in
theorem law_told_ok : ∀ {k : Nat} {t : Tr} {o : List Int}, t.dep + 2 ≤ k → t.Form → t.leaves.Nodup → t.leaves.length ≤ 1000 → o.Perm t.leaves → f_law_told k t o = .ok (decide (Told t o)) := by
  intro k
  induction k with
  | zero => intro t o h; omega
  | succ k ih =>
    intro t o h hf hn hl hp
    cases t with
    | leaf i =>
      rw [leaves_leaf, List.perm_singleton] at hp
      subst hp
      have : Told (.leaf i) [i] := told_leaf.mpr rfl
      simp [f_law_told, Tr.isLeaf, Tr.thing, this]
    | node w ps =>
      obtain ⟨f1, f2, f3⟩ := Form_node.mp hf
      rw [leaves_node] at hn hl hp
      have hpl := parts_len f3
      have dp : ∀ p ∈ ps, p.dep + 2 ≤ k := fun p m => by have := dep_part (w := w) m; omega
      have things : ∀ p ∈ ps, f_law_things k p = .ok p.leaves := fun p m => law_things_ok (by have := dp p m; omega) (by have := len_part m; omega)
      have told : ∀ p ∈ ps, ∀ b, b.Perm p.leaves → f_law_told k p b = .ok (decide (Told p b)) := fun p m b hb => ih (dp p m) (f3 p m) (nodup_part m hn) (by have := len_part m; omega) hb
      have getD_some : ∀ {j : Nat} {p : Tr}, ps[j]? = some p → ps.getD j (.leaf 0) = p := fun h => by rw [List.getD_eq_getElem?_getD, h]; rfl
      by_cases ht : Told (.node w ps) o
      · -- the told sequence is found
        rw [decide_eq_true ht]
        obtain ⟨qs, h1, h2⟩ := told_node.mp ht
        obtain ⟨l, pl, rfl⟩ := perm_byIx h1.perm
        have ll : l.length = ps.length := by rw [pl.length_eq, iota_len]
        have lnd : l.Nodup := pl.nodup_iff.mpr (iota_nodup _ _)
        have lr : ∀ x ∈ l, 0 ≤ x ∧ x.toNat < ps.length := fun x m => by have := iota_mem.mp (pl.mem_iff.mp m); omega
        refine told_loop (Inv := fun i s => s.2 = l.take i ∧ TS (byIx ps (l.drop i)) s.1) (by omega) things told ⟨by simp, by simpa using h2⟩ (fun i s ⟨e, _⟩ => by rw [e, List.length_take]; omega) ?_ ?_ ?_ ?_
        -- what stands next
        · intro i s hi ⟨e1, e2⟩ hno
          exfalso
          have hil : i < l.length := by omega
          rw [List.drop_eq_getElem_cons hil] at e2
          simp only [byIx, List.map_cons] at e2
          obtain ⟨a, b, k1, _, e3⟩ := TS_cons.mp e2
          have hx := lr _ (List.getElem_mem hil)
          have gp : ps[(l[i]).toNat]? = some ps[(l[i]).toNat] := List.getElem?_eq_getElem hx.2
          rw [getD_some gp] at k1
          refine hno (l[i]).toNat ⟨_, gp, ?_, ?_⟩
          · rw [e1]
            have : ((l[i].toNat : Nat) : Int) = l[i] := by omega
            rw [this]
            intro m
            have e := List.take_append_drop i l
            rw [List.drop_eq_getElem_cons hil] at e
            rw [← e] at lnd
            exact (List.nodup_append.mp lnd).2.2 _ m _ List.mem_cons_self rfl
          · rw [e3, ← k1.perm.length_eq, List.take_left]
            exact k1.perm
        · intro i s j p hi ⟨e1, e2⟩ hj ⟨p', hp', m1, m2⟩ hT
          rw [hj] at hp'
          cases hp'
          have hil : i < l.length := by omega
          have e2' := e2
          rw [List.drop_eq_getElem_cons hil] at e2
          simp only [byIx, List.map_cons] at e2
          obtain ⟨a, b, k1, k2, e3⟩ := TS_cons.mp e2
          have hx := lr _ (List.getElem_mem hil)
          have gp : ps[(l[i]).toNat]? = some ps[(l[i]).toNat] := List.getElem?_eq_getElem hx.2
          rw [getD_some gp] at k1
          have la : 0 < a.length := by rw [k1.perm.length_eq]; exact leaves_pos _ (f3 _ (List.getElem_mem hx.2))
          have lp : 0 < p.leaves.length := leaves_pos _ (f3 _ (List.mem_of_getElem? hj))
          -- the first thing lies in both
          have hj2 : j = (l[i]).toNat := by
            have c1 : a[0] ∈ p.leaves := by
              refine m2.mem_iff.mp ?_
              rw [e3, List.mem_take_iff_getElem]
              exact ⟨0, by simp; omega, by rw [List.getElem_append_left la]⟩
            exact parts_disj hn hj gp c1 (k1.perm.mem_iff.mp (List.getElem_mem la))
          subst hj2
          have : p = ps[(l[i]).toNat]'hx.2 := by rw [gp] at hj; cases hj; rfl
          subst this
          refine ⟨?_, ?_⟩
          · show s.2 ++ [((l[i].toNat : Nat) : Int)] = _
            have : ((l[i].toNat : Nat) : Int) = l[i] := by omega
            rw [this, e1, List.take_succ, List.getElem?_eq_getElem hil]; rfl
          · show TS (byIx ps (l.drop (i + 1))) (s.1.drop _)
            rw [e3, ← k1.perm.length_eq, List.drop_left]
            exact k2
        · intro i s j p hi ⟨e1, e2⟩ hj ⟨p', hp', m1, m2⟩ hT
          exfalso
          rw [hj] at hp'
          cases hp'
          have hil : i < l.length := by omega
          rw [List.drop_eq_getElem_cons hil] at e2
          simp only [byIx, List.map_cons] at e2
          obtain ⟨a, b, k1, k2, e3⟩ := TS_cons.mp e2
          have hx := lr _ (List.getElem_mem hil)
          have gp : ps[(l[i]).toNat]? = some ps[(l[i]).toNat] := List.getElem?_eq_getElem hx.2
          rw [getD_some gp] at k1
          have la : 0 < a.length := by rw [k1.perm.length_eq]; exact leaves_pos _ (f3 _ (List.getElem_mem hx.2))
          have lp : 0 < p.leaves.length := leaves_pos _ (f3 _ (List.mem_of_getElem? hj))
          have hj2 : j = (l[i]).toNat := by
            have c1 : a[0] ∈ p.leaves := by
              refine m2.mem_iff.mp ?_
              rw [e3, List.mem_take_iff_getElem]
              exact ⟨0, by simp; omega, by rw [List.getElem_append_left la]⟩
            exact parts_disj hn hj gp c1 (k1.perm.mem_iff.mp (List.getElem_mem la))
          subst hj2
          have : p = ps[(l[i]).toNat]'hx.2 := by rw [gp] at hj; cases hj; rfl
          subst this
          rw [e3, ← k1.perm.length_eq, List.take_left] at hT
          exact hT k1
        · intro s ⟨e1, e2⟩
          have e3 : s.1 = [] := by
            rw [← ll, List.drop_length] at e2
            exact TS_nil.mp e2
          have e4 : s.2 = l := by rw [e1, ← ll, List.take_length]
          rw [if_neg (by rw [e3, e4, ll]; simp), e4]
          cases w with
          | true => rfl
          | false =>
            have es := iota_rev_sorted pl
            have inj : ∀ {a b : List Int}, a.Perm (iota 0 ps.length) → b.Perm (iota 0 ps.length) → byIx ps a = byIx ps b → a = b := by
              intro a b ha hb e
              have la : a.length = ps.length := by rw [ha.length_eq, iota_len]
              have lb : b.length = ps.length := by rw [hb.length_eq, iota_len]
              apply List.ext_getElem (by omega)
              intro i h1 h2
              have ra := iota_mem.mp (ha.mem_iff.mp (List.getElem_mem h1))
              have rb := iota_mem.mp (hb.mem_iff.mp (List.getElem_mem h2))
              have ga : ps[(a[i]).toNat]? = some (ps[(a[i]).toNat]'(by omega)) := List.getElem?_eq_getElem (by omega)
              have gb : ps[(b[i]).toNat]? = some (ps[(b[i]).toNat]'(by omega)) := List.getElem?_eq_getElem (by omega)
              have e2 : (byIx ps a)[i]? = (byIx ps b)[i]? := by rw [e]
              simp only [byIx, List.getElem?_map, List.getElem?_eq_getElem h1, List.getElem?_eq_getElem h2, Option.map_some, getD_some ga, getD_some gb, Option.some.injEq] at e2
              have m := leaves_pos _ (f3 _ (List.mem_of_getElem? ga))
              have x1 := List.getElem_mem m
              have := parts_disj hn ga gb x1 (by rw [← e2]; exact x1)
              omega
            rcases h1 with h1 | h1
            · have : l = iota 0 ps.length := inj pl (.refl _) (by rw [byIx_iota]; exact h1)
              rw [es, this]; simp
            · have : l = (iota 0 ps.length).reverse := inj pl (List.reverse_perm _) (by
                rw [h1]
                unfold byIx
                rw [List.map_reverse]
                congr 1
                exact (byIx_iota ps).symm)
              rw [es, this]; simp
      · -- nothing is told that is not
        rw [decide_eq_false ht]
        refine told_loop (Inv := fun i s => s.2.length ≤ i ∧ s.2.Nodup ∧ (∀ x ∈ s.2, 0 ≤ x ∧ x.toNat < ps.length) ∧ ∃ a, TS (byIx ps s.2) a ∧ o = a ++ s.1) (by omega) things told ⟨by simp, .nil, (fun x m => by cases m), [], TS_nil.mpr rfl, rfl⟩ (fun i s h => h.1) ?_ ?_ (fun _ _ _ _ _ _ _ _ _ => rfl) ?_
        · rintro i s hi ⟨h1, h2⟩ _
          exact ⟨by omega, h2⟩
        · rintro i s j p hi ⟨h1, h2, h3, a, h4, h5⟩ hj ⟨p', hp', m1, m2⟩ hT
          refine ⟨by simp; omega, ?_, ?_, a ++ s.1.take p.leaves.length, ?_, ?_⟩
          · rw [List.nodup_append]
            exact ⟨h2, by simp, fun x hx y hy e => by simp at hy; subst e; subst hy; exact m1 hx⟩
          · intro x m
            simp only [List.mem_append, List.mem_singleton] at m
            rcases m with m | rfl
            · exact h3 x m
            · exact ⟨by omega, by simpa using (List.getElem?_eq_some_iff.mp hj).1⟩
          · rw [byIx_append]
            refine TS_append.mpr ⟨a, _, h4, ?_, rfl⟩
            simp only [byIx, List.map_cons, List.map_nil, Int.toNat_natCast, getD_some hj]
            exact TS_single.mpr hT
          · rw [h5, List.append_assoc, List.take_append_drop]
        · rintro s ⟨h1, h2, h3, a, h4, h5⟩
          by_cases c : s.2.length < ps.length ∨ 0 < s.1.length
          · rw [if_pos c]
          · rw [if_neg c]
            have e1 : s.1 = [] := List.length_eq_zero_iff.mp (by omega)
            have e2 : s.2.length = ps.length := by omega
            rw [e1, List.append_nil] at h5
            subst h5
            have pl : s.2.Perm (iota 0 ps.length) := by
              refine perm_of_sub h2 (fun x m => ?_) (by rw [iota_len]; omega)
              have := h3 x m
              exact iota_mem.mpr (by omega)
            have es := iota_rev_sorted pl
            rw [es]
            cases w with
            | true => exact absurd (told_node.mpr ⟨byIx ps s.2, (show Arr true ps _ from byIx_perm pl), h4⟩) ht
            | false =>
              have n1 : s.2 ≠ iota 0 ps.length := fun e => by
                rw [e, byIx_iota] at h4
                exact ht (told_node.mpr ⟨ps, (show Arr false ps ps from .inl rfl), h4⟩)
              have n2 : s.2 ≠ (iota 0 ps.length).reverse := fun e => by
                rw [e] at h4
                have : byIx ps (iota 0 ps.length).reverse = ps.reverse := by
                  unfold byIx
                  rw [List.map_reverse]
                  congr 1
                  exact byIx_iota ps
                rw [this] at h4
                exact ht (told_node.mpr ⟨ps.reverse, (show Arr false ps _ from .inr rfl), h4⟩)
              simp [n1, n2]
end PC

set_option Elab.async false
set_option linter.all false
set_option maxRecDepth 100000
/-! ML14: sets, tables, drawn orders, all orders; what stands together. -/
namespace PC
open PySem
theorem len_of_sub : ∀ {a b : List Int}, a.Nodup → (∀ x ∈ a, x ∈ b) → a.length ≤ b.length
  | [], b, _, _ => by simp
  | x :: a, b, hn, hs => by
    have m := hs x List.mem_cons_self
    obtain ⟨n1, n2⟩ := List.nodup_cons.mp hn
    have := len_of_sub n2 (b := b.erase x) fun y hy => (List.mem_erase_of_ne (by rintro rfl; exact n1 hy)).mpr (hs y (List.mem_cons_of_mem _ hy))
    rw [List.length_erase_of_mem m] at this
    have := List.length_pos_of_mem m
    simp
    omega
theorem sort_nodup {l : List Int} (h : l.Pairwise (· < ·)) : l.Nodup := h.imp fun h => by omega
theorem perm_of_iff {a b : List Int} (ha : a.Nodup) (hb : b.Nodup) (h : ∀ x, x ∈ a ↔ x ∈ b) : a.Perm b := perm_of_sub ha (fun x m => (h x).mp m) (len_of_sub hb fun x m => (h x).mpr m)
/-! ### sets -/
/-- a set of n things, as the program keeps it -/
structure VSet (n : Nat) (C : List Int) : Prop where
  sort : C.Pairwise (· < ·)
  mem : ∀ x ∈ C, 0 ≤ x ∧ x < n
theorem VSet.len {n : Nat} {C : List Int} (h : VSet n C) : C.length ≤ n := by
  have := len_of_sub (sort_nodup h.sort) (b := iota 0 n) fun x m => iota_mem.mpr (by have := h.mem x m; omega)
  rwa [iota_len] at this
theorem is_set_ok {k n : Nat} {C : List Int} (h : VSet n C) (hn : n ≤ 1000) (hk : 1 ≤ k) : f_is_set k (n : Int) C = .ok true := by
  obtain ⟨k, rfl, _⟩ := succ_of hk
  have hl := h.len
  simp only [f_is_set, rng0 (show C.length ≤ 1000000 by omega), letR_ok]
  refine seq_inv (G := fun x => Fl.run x .st = .ok true) (fun _ _ => True) trivial (fun i hi s _ => ?_) fun s _ => rfl
  rw [iota_getE hi]
  rw [iota_len] at hi
  have m := h.mem _ (List.getElem_mem hi)
  have e0 : (0 : Int) + (i : Int) = (i : Int) := by omega
  rw [e0]
  refine ⟨(), ?_, trivial⟩
  have e1 : atL C (i : Int) = .ok C[i] := atL_get hi
  have b1 : (decide (0 ≤ C[i]) && decide (C[i] < (n : Int))) = true := by simp [m.1, m.2]
  simp only [e1, bnd_ok, b1, Bool.not_true, cnd_ok, Bool.false_eq_true, if_false]
  by_cases c : 0 < i
  · have e2 : atL C ((i : Int) - 1) = .ok C[i - 1] := by
      have : ((i : Int) - 1) = ((i - 1 : Nat) : Int) := by omega
      rw [this]
      exact atL_get (by omega)
    have lt : C[i - 1] < C[i] := List.pairwise_iff_getElem.mp h.sort (i - 1) i (by omega) hi (by omega)
    have b2 : decide ((0 : Int) < (i : Int)) = true := decide_eq_true (by omega)
    have b3 : decide (C[i] ≤ C[i - 1]) = false := decide_eq_false (by omega)
    simp only [b2, if_true, e2, bnd_ok, b3, cnd_ok, Bool.false_eq_true, if_false]
  · have b2 : decide ((0 : Int) < (i : Int)) = false := decide_eq_false (by omega)
    simp only [b2, Bool.false_eq_true, if_false, cnd_ok]
theorem check_set_ok {k n : Nat} {C : List Int} (h : VSet n C) (h0 : 0 < n) (hn : n ≤ 24) (hk : 2 ≤ k) : f_check_set k (n : Int) C = .ok C := by
  obtain ⟨k, rfl, hk1⟩ := succ_of hk
  have b : decide (1 ≤ (n : Int) ∧ (n : Int) ≤ 24) = true := decide_eq_true (by omega)
  simp only [f_check_set, is_size_ok (k := k) (by omega), b, bnd_ok, Bool.not_true, Bool.false_eq_true, if_false, is_set_ok h (show n ≤ 1000 by omega) hk1, cnd_ok, letR_ok, run_rt]
theorem check_table_ok {k n : Nat} {S : List (List Int)} (h : ∀ C ∈ S, VSet n C) (hS : S.length ≤ 40) (h0 : 0 < n) (hn : n ≤ 24) (hk : 3 ≤ k) : f_check_table k (n : Int) S = .ok S := by
  obtain ⟨k, rfl, hk1⟩ := succ_of hk
  have b : decide (1 ≤ (n : Int) ∧ (n : Int) ≤ 24) = true := decide_eq_true (by omega)
  have b2 : decide ((40 : Int) < (S.length : Int)) = false := decide_eq_false (by omega)
  simp only [f_check_table, is_size_ok (k := k) (by omega), b, bnd_ok, Bool.not_true, Bool.false_eq_true, if_false, cnd_ok, letR_ok, b2, Bool.or_self]
  refine seq_inv (G := fun x => Fl.run x .st = .ok S) (fun _ _ => True) trivial (fun i hi s _ => ⟨(), ?_, trivial⟩) fun s _ => rfl
  rw [check_set_ok (h _ (List.getElem_mem hi)) h0 hn hk1]
  rfl
theorem check_tree_ok {k n : Nat} {t : Tr} (h : Over n t) (hn : n ≤ 24) (hk : 30 ≤ k) : f_check_tree k (n : Int) t = .ok t := by
  obtain ⟨k, rfl, hk⟩ := succ_of hk
  have hd := h.dep
  have hpos := h.pos
  have e : isort t.leaves = iota 0 n := isort_iota.mpr h.perm
  have b : decide (1 ≤ (n : Int) ∧ (n : Int) ≤ 24) = true := decide_eq_true (by omega)
  simp [f_check_tree, is_size_ok (show 1 ≤ k by omega), b, has_form_ok (show t.dep + 2 ≤ k by omega) h.form, listed_ok (show t.dep + 2 ≤ k by omega) (by rw [h.len]; omega), e, rng0 (show n ≤ 1000000 by omega)]
theorem need_tree_ok {k n : Nat} {t : Tr} (h : Over n t) (hn : n ≤ 24) (hk : 31 ≤ k) : f_need_tree k t = .ok () := by
  obtain ⟨k, rfl, hk1⟩ := succ_of hk
  have hd := h.dep
  simp [f_need_tree, has_form_ok (show t.dep + 2 ≤ k by omega) h.form, listed_ok (show t.dep + 2 ≤ k by omega) (by rw [h.len]; omega), h.len, check_tree_ok h hn hk1]
theorem reduced_ok {k n : Nat} {t : Tr} {C : List Int} (h : Over n t) (hC : VSet n C) (hn : n ≤ 24) (hk : 130 ≤ k) : ∃ r, f_reduced k t C = .ok r ∧ RedOk C t r := by
  obtain ⟨k, rfl, hk⟩ := succ_of hk
  have hd := h.dep
  obtain ⟨r, e, hr⟩ := reduced_by_ok (k := k) (t := t) (C := C) (by omega) h.form h.nodup (by rw [h.len]; omega) fun x m => h.perm.mem_iff.mpr (iota_mem.mpr (by have := hC.mem x m; omega))
  refine ⟨r, ?_, hr⟩
  simp only [f_reduced, need_tree_ok h hn (show 31 ≤ k by omega), letR_ok, listed_ok (show t.dep + 2 ≤ k by omega) (show t.leaves.length ≤ 1000000 by rw [h.len]; omega), bnd_ok, h.len, check_set_ok hC h.pos hn (show 2 ≤ k by omega), e, run_rt]
theorem RedOk.over {n : Nat} {t r : Tr} {C : List Int} (h : RedOk C t (some r)) (ht : Over n t) : Over n r := ⟨h.2.1, h.2.2.1.trans ht.perm⟩
theorem set_ok {k n : Nat} {c : Int} (hn : n ≤ 1000) (hk : 2 ≤ k) : ∃ C, f_law_set k c (n : Int) = .ok C ∧ VSet n C := by
  obtain ⟨k, rfl, hk1⟩ := succ_of hk
  refine ⟨((iota 0 n).filter fun x => decide (rich c / (x + 1) / (1 + x * x) % 2 = 1)).map fun x => x, ?_, ?_⟩
  · simp only [f_law_set, rich_ok hk1, letR_ok, rng0 (show n ≤ 1000000 by omega), bnd_ok]
    rw [compR_ok (q := fun x => decide (rich c / (x + 1) / (1 + x * x) % 2 = 1)) (h := fun x => x) (fun x m => ?_) fun x m _ => rfl]
    · rfl
    · have := iota_mem.mp m
      have h2 : 0 ≤ x * x := Int.mul_nonneg (by omega) (by omega)
      have h3 : x * x ≤ 1000 * 1000 := Int.mul_le_mul (by omega) (by omega) (by omega) (by omega)
      simp only [tdiv_ok (i := rich c) (show 0 < x + 1 by omega) (by omega), tmul_ok (i := x) (show -(2 ^ 64) < x by omega) (by omega), tdiv_ok (i := rich c / (x + 1)) (show 0 < 1 + x * x by omega) (by omega), tmod_ok (show (0 : Int) < 2 by omega), bnd_ok]
  · rw [List.map_id']
    refine ⟨(iota_sorted n 0).sublist List.filter_sublist, fun x m => ?_⟩
    have := iota_mem.mp (List.mem_filter.mp m).1
    omega
theorem stretch_ok {k n : Nat} {c : Int} {o : List Int} (h0 : 0 < n) (hn : n ≤ 1000) (ho : Ord n o) (hk : 2 ≤ k) : ∃ a b d, f_law_stretch k c o = .ok (isort b) ∧ o = a ++ b ++ d ∧ b ≠ [] := by
  obtain ⟨k, rfl, hk1⟩ := succ_of hk
  have hl : o.length = n := by rw [ho.length_eq, iota_len]
  have hp : (0 : Int) < (o.length : Int) := by omega
  have dg := digits_ok (k := k) (c := rich c) (l := [(o.length : Int), (o.length : Int)]) (by intro s m; simp at m; subst m; omega) (by simp) hk1
  obtain ⟨x, ex, x0, x1⟩ := digits_at (l := [(o.length : Int), (o.length : Int)]) (c := rich c) (i := 0) (s := (o.length : Int)) rfl hp
  obtain ⟨y, ey, y0, y1⟩ := digits_at (l := [(o.length : Int), (o.length : Int)]) (c := rich c) (i := 1) (s := (o.length : Int)) rfl hp
  have ex : atL (digits (rich c) [(o.length : Int), (o.length : Int)]) 0 = .ok x := ex
  have ey : atL (digits (rich c) [(o.length : Int), (o.length : Int)]) 1 = .ok y := ey
  obtain ⟨lo, elo, l0, l1⟩ : ∃ lo, lo = (if y < x then y else x) ∧ 0 ≤ lo ∧ lo < o.length := ⟨_, rfl, by split <;> omega, by split <;> omega⟩
  obtain ⟨hi, ehi, h1, h2⟩ : ∃ hi, hi = (if y > x then y else x) ∧ lo ≤ hi ∧ hi < o.length := ⟨_, rfl, by rw [elo]; split <;> split <;> omega, by split <;> omega⟩
  refine ⟨o.take lo.toNat, (o.take (hi + 1).toNat).drop lo.toNat, o.drop (hi + 1).toNat, ?_, ?_, ?_⟩
  · simp only [f_law_stretch, rich_ok hk1, bnd_ok, dg, letR_ok, ex, ey, ← elo, ← ehi, cut_mid l0 (show 0 ≤ hi + 1 by omega), run_rt]
  · have e1 : o.take lo.toNat = (o.take (hi + 1).toNat).take lo.toNat := by rw [List.take_take, Nat.min_eq_left (by omega)]
    rw [e1, List.take_append_drop, List.take_append_drop]
  · intro e
    have := congrArg List.length e
    simp at this
    omega
theorem stretch_set {n : Nat} {o a b d : List Int} (ho : Ord n o) (e : o = a ++ b ++ d) : VSet n (isort b) := by
  have hn : o.Nodup := ho.nodup_iff.mpr (iota_nodup n 0)
  have hb : b.Nodup := by
    rw [e] at hn
    exact (List.nodup_append.mp (List.nodup_append.mp hn).1).2.1
  refine ⟨?_, fun x m => ?_⟩
  · have h1 : (isort b).Nodup := (isort_perm_m b).nodup_iff.mpr hb
    exact ((isort_sorted_m b).and h1).imp fun h => by have := h.1; have := h.2; omega
  · have : x ∈ o := by rw [e]; simp [(isort_perm_m b).mem_iff.mp m]
    have := iota_mem.mp (ho.mem_iff.mp this)
    omega
theorem stretch_tog {n : Nat} {o a b d : List Int} (ho : Ord n o) (e : o = a ++ b ++ d) : Tog (isort b) o := by
  have hn : o.Nodup := ho.nodup_iff.mpr (iota_nodup n 0)
  rw [e] at hn ⊢
  have m : ∀ x, x ∈ isort b ↔ x ∈ b := fun x => (isort_perm_m b).mem_iff
  obtain ⟨n1, n2, n3⟩ := List.nodup_append.mp hn
  obtain ⟨n4, n5, n6⟩ := List.nodup_append.mp n1
  rw [tog_free_right, tog_free_left]
  · exact AllIn.tog fun x h => (m x).mpr h
  · exact fun x h q => n6 x h x ((m x).mp q) rfl
  · exact fun x h q => n3 x (by simp [(m x).mp q]) x h rfl
/-! ### what stands together -/
theorem idx3 {o : List Int} {x y z : Int} : [x, y, z].Sublist o ↔ ∃ i j l : Nat, i < j ∧ j < l ∧ o[i]? = some x ∧ o[j]? = some y ∧ o[l]? = some z := by
  constructor
  · intro h
    obtain ⟨r1, r2, rfl, h1, h2⟩ := List.cons_sublist_iff.mp h
    obtain ⟨s1, s2, rfl, h3, h4⟩ := List.cons_sublist_iff.mp h2
    have h5 : z ∈ s2 := by simpa using h4
    obtain ⟨i, hi, e1⟩ := List.getElem_of_mem h1
    obtain ⟨j, hj, e2⟩ := List.getElem_of_mem h3
    obtain ⟨l, hl, e3⟩ := List.getElem_of_mem h5
    refine ⟨i, r1.length + j, r1.length + (s1.length + l), by omega, by omega, ?_, ?_, ?_⟩
    · rw [List.getElem?_append_left hi, List.getElem?_eq_getElem hi, e1]
    · rw [List.getElem?_append_right (by omega), Nat.add_sub_cancel_left, List.getElem?_append_left hj, List.getElem?_eq_getElem hj, e2]
    · rw [List.getElem?_append_right (by omega), Nat.add_sub_cancel_left, List.getElem?_append_right (by omega), Nat.add_sub_cancel_left, List.getElem?_eq_getElem hl, e3]
  · rintro ⟨i, j, l, h1, h2, e1, e2, e3⟩
    refine List.cons_sublist_iff.mpr ⟨o.take (i + 1), o.drop (i + 1), (List.take_append_drop _ _).symm, ?_, ?_⟩
    · exact List.mem_of_getElem? (i := i) (by rw [List.getElem?_take, if_pos (by omega), e1])
    refine List.cons_sublist_iff.mpr ⟨(o.drop (i + 1)).take (j - i), (o.drop (i + 1)).drop (j - i), (List.take_append_drop _ _).symm, ?_, ?_⟩
    · exact List.mem_of_getElem? (i := j - (i + 1)) (by rw [List.getElem?_take, if_pos (by omega), List.getElem?_drop, ← e2]; congr 1; omega)
    · rw [List.singleton_sublist]
      exact List.mem_of_getElem? (i := l - (j + 1)) (by rw [List.getElem?_drop, List.getElem?_drop, ← e3]; congr 1; omega)
theorem step_sorted {P : List Int} (h : P.Pairwise (· < ·)) : ∀ (d i : Nat) (h2 : i + d < P.length), P[i]'(by omega) + (d : Int) ≤ P[i + d]
  | 0, i, h2 => by simp
  | d + 1, i, h2 => by
    have h3 := step_sorted h d i (by omega)
    have h4 := List.pairwise_iff_getElem.mp h (i + d) (i + (d + 1)) (by omega) h2 (by omega)
    omega
theorem tog_places {o C P : List Int} (hs : P.Pairwise (· < ·)) (hm : ∀ i : Int, i ∈ P ↔ 0 ≤ i ∧ ∃ x, o[i.toNat]? = some x ∧ x ∈ C) : Tog C o ↔ P.length < 2 ∨ ∃ h : P ≠ [], P.getLast h - P.head h = (P.length : Int) - 1 := by
  have key : ∀ i : Nat, (∃ x, o[i]? = some x ∧ x ∈ C) ↔ (i : Int) ∈ P := fun i => by rw [hm]; simp
  constructor
  · intro ht
    by_cases c : P.length < 2
    · exact .inl c
    · refine .inr ⟨by intro e; simp [e] at c, ?_⟩
      have hne : P ≠ [] := by intro e; simp [e] at c
      rw [List.getLast_eq_getElem, List.head_eq_getElem]
      have s0 := step_sorted hs (P.length - 1) 0 (by omega)
      simp only [Nat.zero_add] at s0
      obtain ⟨f0, x, fx, fc⟩ := (hm _).mp (List.getElem_mem (show 0 < P.length by omega))
      obtain ⟨l0, z, lz, lc⟩ := (hm _).mp (List.getElem_mem (show P.length - 1 < P.length by omega))
      have sub : ∀ i ∈ iota P[0] (P[P.length - 1] - P[0] + 1).toNat, i ∈ P := by
        intro i m
        have m := iota_mem.mp m
        by_cases c1 : i = P[0]
        · rw [c1]; exact List.getElem_mem _
        by_cases c2 : i = P[P.length - 1]
        · rw [c2]; exact List.getElem_mem _
        have ll := (List.getElem?_eq_some_iff.mp lz).1
        have gy : o[i.toNat]? = some (o[i.toNat]'(by omega)) := List.getElem?_eq_getElem (by omega)
        refine (hm i).mpr ⟨by omega, _, gy, ?_⟩
        exact ht x _ z (idx3.mpr ⟨_, i.toNat, _, by omega, by omega, fx, gy, lz⟩) fc lc
      have := len_of_sub (iota_nodup _ _) sub
      rw [iota_len] at this
      omega
  · intro h x y z hsub hx hz
    obtain ⟨i, j, l, h1, h2, e1, e2, e3⟩ := idx3.mp hsub
    have mi := (key i).mp ⟨x, e1, hx⟩
    have ml := (key l).mp ⟨z, e3, hz⟩
    obtain ⟨a, ha, ea⟩ := List.getElem_of_mem mi
    obtain ⟨b, hb, eb⟩ := List.getElem_of_mem ml
    rcases h with h | ⟨hne, h⟩
    · exfalso
      have : a = b := by omega
      subst this
      omega
    · rw [List.getLast_eq_getElem, List.head_eq_getElem] at h
      have s1 := step_sorted hs a 0 (by omega)
      have s2 := step_sorted hs (P.length - 1 - b) b (by omega)
      have e4 : b + (P.length - 1 - b) = P.length - 1 := by omega
      simp only [Nat.zero_add, e4] at s1 s2
      have dd : ((j : Int) - P[0]).toNat < P.length := by omega
      have s3 := step_sorted hs ((j : Int) - P[0]).toNat 0 (by omega)
      have s4 := step_sorted hs (P.length - 1 - ((j : Int) - P[0]).toNat) ((j : Int) - P[0]).toNat (by omega)
      have e5 : ((j : Int) - P[0]).toNat + (P.length - 1 - ((j : Int) - P[0]).toNat) = P.length - 1 := by omega
      simp only [Nat.zero_add, e5] at s3 s4
      have : (j : Int) = P[((j : Int) - P[0]).toNat] := by omega
      obtain ⟨y', ey, hy⟩ := (key j).mpr (this ▸ List.getElem_mem dd)
      rw [e2] at ey
      cases ey
      exact hy
open Classical in
theorem together_ok {k : Nat} {o C : List Int} (hl : o.length ≤ 1000) (hk : 1 ≤ k) : f_law_together k o C = .ok (decide (Tog C o)) := by
  obtain ⟨k, rfl, _⟩ := succ_of hk
  obtain ⟨P, hP⟩ : ∃ P, P = (iota 0 o.length).filter fun i : Int => decide (o.getD i.toNat 0 ∈ C) := ⟨_, rfl⟩
  have hs : P.Pairwise (· < ·) := by rw [hP]; exact (iota_sorted _ 0).sublist List.filter_sublist
  have hm : ∀ i : Int, i ∈ P ↔ 0 ≤ i ∧ ∃ x, o[i.toNat]? = some x ∧ x ∈ C := by
    intro i
    rw [hP, List.mem_filter, iota_mem]
    constructor
    · rintro ⟨h1, h2⟩
      have g : o[i.toNat]? = some (o[i.toNat]'(by omega)) := List.getElem?_eq_getElem (by omega)
      rw [List.getD_eq_getElem?_getD, g] at h2
      exact ⟨h1.1, _, g, by simpa using h2⟩
    · rintro ⟨h1, x, h2, h3⟩
      have := (List.getElem?_eq_some_iff.mp h2).1
      refine ⟨by omega, ?_⟩
      rw [List.getD_eq_getElem?_getD, h2]
      simpa using h3
  have ht := tog_places hs hm
  have hc : compR (fun place => (atL o place).bind fun t => .ok (memB t C)) (fun place => .ok place) (iota 0 o.length) = .ok P := by
    rw [compR_ok (q := fun i : Int => decide (o.getD i.toNat 0 ∈ C)) (h := fun x => x) (fun i m => ?_) fun x m _ => rfl, List.map_id', hP]
    have := iota_mem.mp m
    have g : o[i.toNat]? = some (o[i.toNat]'(by omega)) := List.getElem?_eq_getElem (by omega)
    have := atL_int (l := o) (i := i) (by omega) (by omega)
    rw [this, bnd_ok, memB_eq, List.getD_eq_getElem?_getD, g]
    rfl
  simp only [f_law_together, rng0 (show o.length ≤ 1000000 by omega), bnd_ok, hc, letR_ok]
  by_cases c : P.length < 2
  · have b : decide ((P.length : Int) < 2) = true := decide_eq_true (by omega)
    simp only [b, if_true, letR_ok, run_rt]
    rw [decide_eq_true (ht.mpr (.inl c))]
  · have b : decide ((P.length : Int) < 2) = false := decide_eq_false (by omega)
    have hne : P ≠ [] := by intro e; simp [e] at c
    simp only [b, Bool.false_eq_true, if_false, atL_last hne, atL_zero (show 0 < P.length by omega), bnd_ok, letR_ok, run_rt]
    congr 1
    rw [decide_eq_decide, ht]
    constructor
    · exact fun h => .inr ⟨hne, by rw [List.head_eq_getElem]; exact h⟩
    · rintro (h | ⟨_, h⟩)
      · exact absurd h c
      · rw [List.head_eq_getElem] at h; exact h
open Classical in
theorem fits_ok {k : Nat} {o : List Int} {S : List (List Int)} (hl : o.length ≤ 1000) (hk : 2 ≤ k) : f_law_fits k o S = .ok (decide (∀ C ∈ S, Tog C o)) := by
  obtain ⟨k, rfl, hk1⟩ := succ_of hk
  have hc : compR (fun chosen => (f_law_together k o chosen).bind fun t => .ok (!t)) (fun chosen => .ok chosen) S = .ok (S.filter fun C => decide (¬ Tog C o)) := by
    rw [compR_ok (q := fun C => decide (¬ Tog C o)) (h := fun x => x) (fun i m => ?_) fun x m _ => rfl, List.map_id']
    rw [together_ok hl hk1, bnd_ok]
    simp
  simp only [f_law_fits, hc, bnd_ok, letR_ok, run_rt]
  congr 1
  rw [decide_eq_decide, List.filter_eq_nil_iff]
  simp
/-! ### orders -/
theorem drawn_ok : ∀ {k : Nat} {t : Tr} {c : Int}, t.dep + 3 ≤ k → t.Form → t.leaves.length ≤ 1000 → ∃ o, f_law_drawn_order k t c = .ok o ∧ Told t o := by
  intro k
  induction k with
  | zero => intro t c h; omega
  | succ k ih =>
    intro t c h hf hl
    cases t with
    | leaf i => exact ⟨[i], by simp [f_law_drawn_order, Tr.isLeaf, Tr.thing], told_leaf.mpr rfl⟩
    | node w ps =>
      obtain ⟨t', e1, hs⟩ := shuffled_ok (k := k) (t := .node w ps) (c := c) (by omega) hf hl
      have hd := hs.dep
      have hf' := hs.form hf
      have hl' := hs.leaves.length_eq
      have tw : ∃ qs, t' = .node w qs := by cases hs; exact ⟨_, rfl⟩
      obtain ⟨qs, rfl⟩ := tw
      obtain ⟨f1, f2, f3⟩ := Form_node.mp hf'
      rw [leaves_node] at hl'
      have d3 := tdiv_ok (i := c) (show (0 : Int) < 3 by decide) (by decide)
      simp only [f_law_drawn_order, Tr.isLeaf, cnd_ok, Bool.false_eq_true, if_false, letR_ok, e1, bnd_ok, Tr.parts, d3]
      refine seq_inv (G := fun x => ∃ o, Fl.run x .st = .ok o ∧ Told (.node w ps) o) (fun i s => TS (qs.take i) s) (by simpa using TS_nil.mpr rfl) (fun i hi s h1 => ?_) fun s h1 => ?_
      · have m := List.getElem_mem hi
        obtain ⟨o, e2, h2⟩ := ih (t := qs[i]) (c := c / 3 + 11) (by have := dep_part (w := w) m; omega) (f3 _ m) (by have := len_part m; omega)
        have l1 := h1.perm.length_eq
        have l2 := h2.perm.length_eq
        have l3 : (leavesL (qs.take i ++ qs.drop i)).length = (leavesL qs).length := by rw [List.take_append_drop]
        rw [leavesL_append, List.length_append] at l3
        have l4 := len_part m
        refine ⟨s ++ o, ?_, ?_⟩
        · simp only [e2, bnd_ok]
          rw [catL_ok (by omega)]
          rfl
        · have et : qs.take (i + 1) = qs.take i ++ [qs[i]] := by rw [List.take_succ, List.getElem?_eq_getElem hi]; rfl
          rw [et]
          exact TS_append.mpr ⟨s, o, h1, TS_single.mpr h2, rfl⟩
      · rw [List.take_length] at h1
        refine ⟨s, rfl, ?_⟩
        refine (told_same hs).mpr (told_node.mpr ⟨qs, ?_, h1⟩)
        cases w
        · exact .inl rfl
        · exact List.Perm.refl _
theorem Over.drawn {k n : Nat} {t : Tr} {c : Int} (h : Over n t) (hn : n ≤ 24) (hk : 30 ≤ k) : ∃ o, f_law_drawn_order k t c = .ok o ∧ Told t o ∧ Ord n o := by
  obtain ⟨o, e, ht⟩ := drawn_ok (k := k) (t := t) (c := c) (by have := h.dep; omega) h.form (by rw [h.len]; omega)
  exact ⟨o, e, ht, ht.perm.trans h.perm⟩
open Classical in
theorem Over.told {k n : Nat} {t : Tr} {o : List Int} (h : Over n t) (ho : Ord n o) (hn : n ≤ 24) (hk : 30 ≤ k) : f_law_told k t o = .ok (decide (Told t o)) := law_told_ok (by have := h.dep; omega) h.form h.nodup (by rw [h.len]; omega) (ho.trans h.perm.symm)
theorem Ord.len {n : Nat} {o : List Int} (h : Ord n o) : o.length = n := by rw [h.length_eq, iota_len]
theorem agrees_ok {k n : Nat} {t : Tr} {C o : List Int} {r : Option Tr} (h : Over n t) (ho : Ord n o) (hr : RedOk C t r) (hn : n ≤ 24) (hk : 31 ≤ k) : f_law_agrees k t C r o = .ok true := by
  classical
  obtain ⟨k, rfl, hk1⟩ := succ_of hk
  have e1 := h.told ho hn hk1
  have e2 := together_ok (k := k) (C := C) (show o.length ≤ 1000 by rw [ho.len]; omega) (by omega)
  have e3 : (f_law_told k t o).bind (fun t => if t then f_law_together k o C else .ok false) = .ok (decide (Told t o ∧ Tog C o)) := by
    rw [e1, bnd_ok]
    by_cases c : Told t o
    · simp [c, e2]
    · simp [c]
  simp only [f_law_agrees, e3, letR_ok]
  cases r with
  | none =>
    have : ¬ (Told t o ∧ Tog C o) := fun q => hr o q.1 q.2
    simp [this]
  | some r =>
    have e4 := (hr.over h).told ho hn hk1
    have e5 := hr.2.2.2 o
    simp [optG, e4, e5]
theorem ord_ins {n : Nat} {o : List Int} (h : Ord n o) (a : Nat) : Ord (n + 1) (o.take a ++ [(n : Int)] ++ o.drop a) := by
  have e : iota 0 (n + 1) = iota 0 n ++ [(n : Int)] := by
    rw [iota_append]
    simp [iota]
  unfold Ord
  rw [e, List.append_assoc]
  refine (List.perm_middle (a := (n : Int)) (l₁ := o.take a) (l₂ := o.drop a)).trans ?_
  rw [List.take_append_drop]
  exact (h.cons _).trans (List.perm_append_singleton _ _).symm
theorem orders_ok {k n : Nat} (hn : n ≤ 5) (hk : 1 ≤ k) : ∃ os, f_law_orders k (n : Int) = .ok os ∧ ∀ o ∈ os, Ord n o := by
  obtain ⟨k, rfl, _⟩ := succ_of hk
  simp only [f_law_orders, letR_ok, rng0 (show n ≤ 1000000 by omega)]
  refine seq_inv (G := fun x => ∃ os, Fl.run x .st = .ok os ∧ ∀ o ∈ os, Ord n o) (fun i s => (∀ o ∈ s, Ord i o) ∧ s.length ≤ 6 ^ i) ⟨by simp [Ord, iota], by simp⟩ (fun i hi s h => ?_) fun s h => ?_
  · rw [iota_getE hi]
    rw [iota_len] at hi
    have e0 : (0 : Int) + (i : Int) = (i : Int) := by omega
    rw [e0]
    have hb : 6 ^ i ≤ 6 ^ 4 := Nat.pow_le_pow_right (by omega) (by omega)
    refine seq_inv (G := fun x => ∃ s' : List (List Int), x = .nx s' ∧ (∀ o ∈ s', Ord (i + 1) o) ∧ s'.length ≤ 6 ^ (i + 1)) (fun j (s' : List (List Int)) => (∀ o ∈ s', Ord (i + 1) o) ∧ s'.length ≤ 6 * j) ⟨by simp, by simp⟩ (fun j hj s' h' => ?_) fun s' h' => ?_
    · have ho := h.1 _ (List.getElem_mem hj)
      have hl := ho.len
      have el : ((s[j].length : Int) + 1) = ((i + 1 : Nat) : Int) := by omega
      rw [el]
      simp only [rng0 (show i + 1 ≤ 1000000 by omega), letR_ok]
      refine seq_inv (G := fun x => ∃ s' : List (List Int), x = .nx s' ∧ (∀ o ∈ s', Ord (i + 1) o) ∧ s'.length ≤ 6 * (j + 1)) (fun a (s' : List (List Int)) => (∀ o ∈ s', Ord (i + 1) o) ∧ s'.length ≤ 6 * j + a) ⟨h'.1, by omega⟩ (fun a ha s3 h3 => ?_) fun s3 h3 => ?_
      · rw [iota_getE ha]
        rw [iota_len] at ha
        have e1 : (0 : Int) + (a : Int) = (a : Int) := by omega
        rw [e1, cut_take (show (0 : Int) ≤ (a : Int) by omega), cut_drop (show (0 : Int) ≤ (a : Int) by omega), Int.toNat_natCast]
        refine ⟨s3 ++ [s[j].take a ++ [(i : Int)] ++ s[j].drop a], ?_, ?_, ?_⟩
        · rw [catL_ok (by simp; omega), bnd_ok, catL_ok (by simp; omega), letR_ok, appL_ok (by omega)]
        · intro o m
          simp only [List.mem_append, List.mem_singleton] at m
          rcases m with m | rfl
          · exact h3.1 o m
          · simpa using ord_ins ho a
        · simp; omega
      · rw [iota_len] at h3
        exact ⟨s3, rfl, h3.1, by omega⟩
    · exact ⟨s', rfl, h'.1, by rw [Nat.pow_succ]; omega⟩
  · rw [iota_len] at h
    exact ⟨s, rfl, h.1⟩
end PC

set_option Elab.async false
set_option linter.all false
set_option maxRecDepth 100000
/-! ML15: a tree and a table; the tree of a table; choices. -/
namespace PC
open PySem
/-- every set of a table stands together -/
def TogS (S : List (List Int)) (o : List Int) : Prop := ∀ C ∈ S, Tog C o
def AllOk (n : Nat) (t : Tr) (S : List (List Int)) : Option Tr → Prop
  | none => ∀ o, Told t o → ¬ TogS S o
  | some r => Over n r ∧ (S ≠ [] ∨ t.Norm → r.Norm) ∧ ∀ o, Told r o ↔ Told t o ∧ TogS S o
theorem TogS_append {A B : List (List Int)} {o : List Int} : TogS (A ++ B) o ↔ TogS A o ∧ TogS B o := by
  simp only [TogS, List.mem_append]
  exact ⟨fun h => ⟨fun C m => h C (.inl m), fun C m => h C (.inr m)⟩, fun h C m => m.elim (h.1 C) (h.2 C)⟩
theorem TogS_single {C : List Int} {o : List Int} : TogS [C] o ↔ Tog C o := by simp [TogS]
theorem reduced_by_all_ok {k n : Nat} {t : Tr} {S : List (List Int)} (h : Over n t) (hS : ∀ C ∈ S, VSet n C) (hn : n ≤ 24) (hk : 130 ≤ k) : ∃ r, f_reduced_by_all k (some t) S = .ok r ∧ AllOk n t S r := by
  obtain ⟨k, rfl, hk1⟩ := succ_of hk
  simp only [f_reduced_by_all, letR_ok]
  refine seq_gen (G := fun x => ∃ r, Fl.run x (.ok none) = .ok r ∧ AllOk n t S r) (fun i s => ∃ r, s = some r ∧ Over n r ∧ (0 < i ∨ t.Norm → r.Norm) ∧ ∀ o, Told r o ↔ Told t o ∧ TogS (S.take i) o) ⟨t, rfl, h, fun c => c.elim (fun c => by omega) id, fun o => by simp [TogS]⟩ (fun i hi s hs => ?_) fun s hs => ?_
  · obtain ⟨r, rfl, h1, h2, h3⟩ := hs
    have hC := hS _ (List.getElem_mem hi)
    obtain ⟨q, e, hq⟩ := reduced_by_ok (k := k) (t := r) (C := S[i]) (by have := h1.dep; omega) h1.form h1.nodup (by rw [h1.len]; omega) fun x m => h1.perm.mem_iff.mpr (iota_mem.mpr (by have := hC.mem x m; omega))
    simp only [optG, bnd_ok, e, letR_ok]
    have et : S.take (i + 1) = S.take i ++ [S[i]] := by rw [List.take_succ, List.getElem?_eq_getElem hi]; rfl
    cases q with
    | none =>
      refine .inr (.inr (.inl ⟨none, by simp, none, rfl, fun o ht hS => ?_⟩))
      have hb : TogS S o := hS
      rw [← List.take_append_drop (i + 1) S, et] at hb
      have hb := TogS_append.mp (TogS_append.mp hb).1
      exact hq o ((h3 o).mpr ⟨ht, hb.1⟩) (TogS_single.mp hb.2)
    | some q =>
      refine .inl ⟨some q, by simp, q, rfl, hq.over h1, fun _ => hq.1, fun o => ?_⟩
      rw [hq.2.2.2 o, h3 o, et, TogS_append, TogS_single]
      exact and_assoc
  · obtain ⟨r, rfl, h1, h2, h3⟩ := hs
    rw [List.take_length] at h3
    refine ⟨some r, by simp, h1, ?_, h3⟩
    rintro (c | c)
    · exact h2 (.inl (List.length_pos_iff.mpr c))
    · exact h2 (.inr c)
/-! ### the tree of a table -/
theorem TS_leaf : ∀ {l o : List Int}, TS (l.map Tr.leaf) o ↔ o = l
  | [], o => TS_nil
  | x :: l, o => by
    rw [List.map_cons, TS_cons]
    constructor
    · rintro ⟨a, b, h1, h2, rfl⟩
      rw [told_leaf.mp h1, TS_leaf.mp h2]; rfl
    · rintro rfl
      exact ⟨[x], l, told_leaf.mpr rfl, TS_leaf.mpr rfl, rfl⟩
theorem told_plain {n : Nat} {o : List Int} (h0 : 0 < n) : Told (plainT n) o ↔ Ord n o := by
  refine ⟨fun h => h.perm.trans (plain_over h0).perm, fun h => ?_⟩
  unfold plainT
  by_cases c : n = 1
  · subst c
    rw [if_pos rfl]
    have : o = [0] := by
      have h : o.Perm [0] := h
      exact List.perm_singleton.mp h
    exact told_leaf.mpr this
  · rw [if_neg c]
    refine told_node.mpr ⟨o.map Tr.leaf, ?_, TS_leaf.mpr rfl⟩
    have h : o.Perm (iota 0 n) := h
    exact h.map Tr.leaf
theorem plain_norm (n : Nat) : (plainT n).Norm := by
  unfold plainT
  by_cases c : n = 1
  · rw [if_pos c]; exact trivial
  · rw [if_neg c]
    refine ⟨NormL_iff.mpr fun p m => ?_, ?_⟩
    · obtain ⟨x, _, rfl⟩ := List.mem_map.mp m
      exact trivial
    · refine List.pairwise_map.mpr ((iota_le n 0).imp fun {a b} h => ?_)
      simpa [tl, Tr.leaves, least, minL] using h
/-- what the tree of a table is -/
def TreeOk (n : Nat) (S : List (List Int)) : Option Tr → Prop
  | none => ∀ o, Ord n o → ¬ TogS S o
  | some r => Over n r ∧ r.Norm ∧ ∀ o, Told r o ↔ Ord n o ∧ TogS S o
theorem AllOk.tree {n : Nat} {S : List (List Int)} {r : Option Tr} (h0 : 0 < n) (h : AllOk n (plainT n) S r) : TreeOk n S r := by
  cases r with
  | none => exact fun o ho => h o ((told_plain h0).mpr ho)
  | some r => exact ⟨h.1, h.2.1 (.inr (plain_norm n)), fun o => by rw [h.2.2 o, told_plain h0]⟩
theorem tree_all_ok {k n : Nat} {S : List (List Int)} (h0 : 0 < n) (hS : ∀ C ∈ S, VSet n C) (hn : n ≤ 24) (hk : 130 ≤ k) : ∃ r, f_reduced_by_all k (some (plainT n)) S = .ok r ∧ TreeOk n S r := by
  obtain ⟨r, e, h⟩ := reduced_by_all_ok (plain_over h0) hS hn hk
  exact ⟨r, e, h.tree h0⟩
theorem tree_of_ok {k n : Nat} {S : List (List Int)} (h0 : 0 < n) (hS : ∀ C ∈ S, VSet n C) (hl : S.length ≤ 40) (hn : n ≤ 24) (hk : 131 ≤ k) : ∃ r, f_tree_of k (n : Int) S = .ok r ∧ TreeOk n S r := by
  obtain ⟨k, rfl, hk1⟩ := succ_of hk
  obtain ⟨r, e, h⟩ := tree_all_ok (k := k) h0 hS hn hk1
  refine ⟨r, ?_, h⟩
  simp only [f_tree_of, check_table_ok hS hl h0 hn (show 3 ≤ k by omega), letR_ok, plain_ok h0 hn (show 3 ≤ k by omega), bnd_ok, e, run_rt]
def Fits (n : Nat) (S : List (List Int)) : Prop := ∃ o, Ord n o ∧ TogS S o
theorem TreeOk.fits {n : Nat} {S : List (List Int)} {r : Option Tr} (h : TreeOk n S r) : r.isSome = true ↔ Fits n S := by
  cases r with
  | none => exact ⟨nofun, fun ⟨o, h1, h2⟩ => absurd h2 (h o h1)⟩
  | some r => exact ⟨fun _ => ⟨r.leaves, (h.2.2 _).mp (told_self r)⟩, fun _ => rfl⟩
theorem table_ok {k n : Nat} {ns : List Int} {a : Int} {o : List Int} (h0 : 0 < n) (hn : n ≤ 1000) (ha : 0 ≤ a) (ho : Ord n o) (hk : 3 ≤ k) : ∃ S, f_law_table k ns a (n : Int) o = .ok S ∧ (∀ C ∈ S, VSet n C) ∧ S.length ≤ 8 := by
  obtain ⟨k, rfl, hk1⟩ := succ_of hk
  have e8 : rng 0 8 = .ok (iota 0 8) := rng0 (n := 8) (by decide)
  simp only [f_law_table, e8, letR_ok]
  refine seq_inv (G := fun x => ∃ S : List (List Int), Fl.run x .st = .ok S ∧ (∀ C ∈ S, VSet n C) ∧ S.length ≤ 8) (fun i (s : List (List Int)) => (∀ C ∈ s, VSet n C) ∧ s.length ≤ i) ⟨fun C m => (by cases m), by simp⟩ (fun i hi s h => ?_) fun s h => ?_
  · rw [iota_getE hi]
    rw [iota_len] at hi
    by_cases c : a + (0 + (i : Int)) < (ns.length : Int)
    · simp only [decide_eq_true c, cnd_ok, if_true]
      rw [cell_ok (by omega) (by omega)]
      simp only [bnd_ok, letR_ok, tmod_ok (show (0 : Int) < 8 by decide), tdiv_ok (show (0 : Int) < 8 by decide) (by decide), decide_eq_true_eq]
      obtain ⟨y, hy⟩ : ∃ y, y = ns.getD (a + (0 + (i : Int))).toNat 0 + (0 + (i : Int)) := ⟨_, rfl⟩
      rw [← hy]
      by_cases d : y % 8 = 3
      · obtain ⟨C, e, hC⟩ := set_ok (k := k) (n := n) (c := y / 8) hn hk1
        refine ⟨s ++ [C], ?_, ?_, by simp; omega⟩
        · simp only [d, if_true, e, letR_ok]
          rw [appL_ok (by omega)]
          rfl
        · intro x m
          simp only [List.mem_append, List.mem_singleton] at m
          rcases m with m | rfl
          · exact h.1 x m
          · exact hC
      · obtain ⟨u, v, w, e, e2, _⟩ := stretch_ok (k := k) (c := y / 8) h0 hn ho hk1
        refine ⟨s ++ [isort v], ?_, ?_, by simp; omega⟩
        · simp only [d, if_false, e, letR_ok]
          rw [appL_ok (by omega)]
          rfl
        · intro x m
          simp only [List.mem_append, List.mem_singleton] at m
          rcases m with m | rfl
          · exact h.1 x m
          · exact stretch_set ho e2
    · refine ⟨s, ?_, h.1, by omega⟩
      simp only [decide_eq_false c, cnd_ok, Bool.false_eq_true, if_false]
      rfl
  · rw [iota_len] at h
    exact ⟨s, rfl, h⟩
/-! ### choices -/
def chs : Nat → List Int → List (List Int)
  | 0, _ => [[]]
  | _ + 1, [] => []
  | s + 1, x :: r => (chs s r).map (x :: ·) ++ chs (s + 1) r
theorem chs_len : ∀ (l : List Int) (s : Nat), (chs s l).length ≤ 2 ^ l.length
  | l, 0 => by simp [chs]; exact Nat.one_le_two_pow
  | [], s + 1 => by simp [chs]
  | x :: r, s + 1 => by
    have h1 := chs_len r s
    have h2 := chs_len r (s + 1)
    simp only [chs, List.length_append, List.length_map, List.length_cons, Nat.pow_succ]
    omega
theorem chs_mem : ∀ {l c : List Int} {s : Nat}, c ∈ chs s l ↔ c.Sublist l ∧ c.length = s
  | l, c, 0 => by
    simp only [chs, List.mem_singleton]
    exact ⟨fun h => by rw [h]; simp, fun h => List.length_eq_zero_iff.mp h.2⟩
  | [], c, s + 1 => by
    simp only [chs, List.not_mem_nil, false_iff]
    rintro ⟨h1, h2⟩
    rw [List.sublist_nil.mp h1] at h2
    simp at h2
  | x :: r, c, s + 1 => by
    simp only [chs, List.mem_append, List.mem_map, chs_mem (l := r)]
    constructor
    · rintro (⟨d, ⟨h1, h2⟩, rfl⟩ | ⟨h1, h2⟩)
      · exact ⟨h1.cons₂ x, by simp [h2]⟩
      · exact ⟨h1.cons x, h2⟩
    · rintro ⟨h1, h2⟩
      cases h1 with
      | cons _ h => exact .inr ⟨h, h2⟩
      | cons_cons _ h => exact .inl ⟨_, ⟨h, by simpa using h2⟩, rfl⟩
theorem choices_ok : ∀ {k : Nat} {l : List Int} {s : Nat}, l.length + 1 ≤ k → l.length ≤ 12 → f_choices_of k l (s : Int) = .ok (chs s l) := by
  intro k
  induction k with
  | zero => intro l s h; omega
  | succ k ih =>
    intro l s h hl
    cases s with
    | zero => simp [f_choices_of, chs]
    | succ s =>
      have b : decide (((s + 1 : Nat) : Int) = 0) = false := decide_eq_false (by omega)
      simp only [f_choices_of, b, cnd_ok, Bool.false_eq_true, if_false, letR_ok, rng0 (show l.length ≤ 1000000 by omega)]
      refine seq_inv (G := fun x => Fl.run x .st = .ok (chs (s + 1) l)) (fun i acc => acc ++ chs (s + 1) (l.drop i) = chs (s + 1) l) (by simp) (fun i hi acc ha => ?_) fun acc ha => ?_
      · rw [iota_getE hi]
        rw [iota_len] at hi
        have e0 : (0 : Int) + (i : Int) = (i : Int) := by omega
        have e1 : (((s + 1 : Nat) : Int) - 1) = (s : Int) := by omega
        have e2 : ((i : Int) + 1).toNat = i + 1 := by omega
        rw [e0, cut_drop (show (0 : Int) ≤ (i : Int) + 1 by omega), e1, e2, ih (by rw [List.length_drop]; omega) (by rw [List.length_drop]; omega)]
        have e3 : atL l (i : Int) = .ok l[i] := atL_get hi
        simp only [bnd_ok, letR_ok, e3]
        have b1 := chs_len l (s + 1)
        have b2 : 2 ^ l.length ≤ 2 ^ 12 := Nat.pow_le_pow_right (by omega) hl
        have b3 := chs_len (l.drop (i + 1)) s
        have b4 : 2 ^ (l.drop (i + 1)).length ≤ 2 ^ 12 := Nat.pow_le_pow_right (by omega) (by rw [List.length_drop]; omega)
        rw [List.drop_eq_getElem_cons hi] at ha
        simp only [chs] at ha
        have b5 := congrArg List.length ha
        simp only [List.length_append, List.length_map] at b5
        rw [forL_app (g := fun r => l[i] :: r) (fun r m acc' => ?_) (by unfold cap; omega)]
        · exact ⟨_, rfl, by rw [List.append_assoc]; exact ha⟩
        · have := (chs_mem.mp m).1.length_le
          rw [List.length_drop] at this
          rw [catL_ok (by simp; omega)]
          rfl
      · rw [iota_len, List.drop_length] at ha
        simp only [chs, List.append_nil] at ha
        rw [ha]
        rfl
end PC

set_option Elab.async false
set_option linter.all false
set_option maxRecDepth 100000
/-! ML17: a tree pruned to some things. -/
namespace PC
open PySem
/-- what is left of the things -/
def kept (X o : List Int) : List Int := o.filter fun x => memB x X
theorem kept_append {X a b : List Int} : kept X (a ++ b) = kept X a ++ kept X b := List.filter_append ..
theorem kept_rev {X a : List Int} : kept X a.reverse = (kept X a).reverse := List.filter_reverse ..
structure PrOk (X : List Int) (t : Tr) (L : List Tr) : Prop where
  one : L.length ≤ 1
  form : ∀ p ∈ L, p.Form
  dep : ∀ p ∈ L, p.dep ≤ t.dep
  leaves : leavesL L = kept X t.leaves
  told : ∀ o', TS L o' ↔ ∃ o, Told t o ∧ kept X o = o'
  all : (∀ x ∈ t.leaves, x ∈ X) → L = [t]
theorem ts_flat {X : List Int} {f : Tr → List Tr} : ∀ {qs : List Tr} {o' : List Int}, (∀ p ∈ qs, PrOk X p (f p)) → (TS (qs.flatMap f) o' ↔ ∃ o, TS qs o ∧ kept X o = o')
  | [], o', _ => by
    rw [List.flatMap_nil, TS_nil]
    constructor
    · rintro rfl; exact ⟨[], TS_nil.mpr rfl, rfl⟩
    · rintro ⟨o, h, rfl⟩
      rw [TS_nil.mp h]; rfl
  | p :: r, o', h => by
    have ih := fun o' => ts_flat (qs := r) (o' := o') fun q m => h q (List.mem_cons_of_mem _ m)
    rw [List.flatMap_cons, TS_append]
    constructor
    · rintro ⟨a, b, h1, h2, rfl⟩
      obtain ⟨c, h3, rfl⟩ := ((h p List.mem_cons_self).told a).mp h1
      obtain ⟨d, h4, rfl⟩ := (ih b).mp h2
      exact ⟨c ++ d, TS_cons.mpr ⟨c, d, h3, h4, rfl⟩, kept_append⟩
    · rintro ⟨o, h1, rfl⟩
      obtain ⟨c, d, h3, h4, rfl⟩ := TS_cons.mp h1
      exact ⟨_, _, ((h p List.mem_cons_self).told _).mpr ⟨c, h3, rfl⟩, (ih _).mpr ⟨d, h4, rfl⟩, kept_append⟩
theorem flat_split {f : Tr → List Tr} : ∀ {qs A B : List Tr}, (∀ p ∈ qs, (f p).length ≤ 1) → qs.flatMap f = A ++ B → ∃ U V, qs = U ++ V ∧ U.flatMap f = A ∧ V.flatMap f = B
  | [], A, B, _, e => by
    have : A = [] ∧ B = [] := by simpa [eq_comm] using e
    exact ⟨[], [], rfl, this.1.symm, this.2.symm⟩
  | p :: r, A, B, h, e => by
    rw [List.flatMap_cons] at e
    have hr : ∀ q ∈ r, (f q).length ≤ 1 := fun q m => h q (List.mem_cons_of_mem _ m)
    match hf : f p, h p List.mem_cons_self with
    | [], _ =>
      rw [hf, List.nil_append] at e
      obtain ⟨U, V, rfl, h1, h2⟩ := flat_split hr e
      exact ⟨p :: U, V, rfl, by rw [List.flatMap_cons, hf, h1]; rfl, h2⟩
    | [x], _ =>
      rw [hf] at e
      match A, e with
      | [], e => exact ⟨[], p :: r, rfl, rfl, by rw [List.flatMap_cons, hf]; exact e⟩
      | a :: A, e =>
        simp only [List.cons_append, List.nil_append, List.cons.injEq] at e
        obtain ⟨U, V, rfl, h1, h2⟩ := flat_split hr e.2
        exact ⟨p :: U, V, rfl, by rw [List.flatMap_cons, hf, h1, e.1]; rfl, h2⟩
    | x :: y :: z, hl => simp at hl
theorem flat_perm {f : Tr → List Tr} : ∀ {ps M : List Tr}, (∀ p ∈ ps, (f p).length ≤ 1) → M.Perm (ps.flatMap f) → ∃ qs : List Tr, qs.Perm ps ∧ qs.flatMap f = M
  | [], M, _, h => ⟨[], .refl _, by rw [List.flatMap_nil] at h ⊢; exact h.eq_nil.symm⟩
  | p :: r, M, h, hp => by
    rw [List.flatMap_cons] at hp
    have hr : ∀ q ∈ r, (f q).length ≤ 1 := fun q m => h q (List.mem_cons_of_mem _ m)
    match hf : f p, h p List.mem_cons_self with
    | [], _ =>
      rw [hf, List.nil_append] at hp
      obtain ⟨qs, h1, h2⟩ := flat_perm hr hp
      exact ⟨p :: qs, h1.cons p, by rw [List.flatMap_cons, hf, h2]; rfl⟩
    | [x], _ =>
      rw [hf] at hp
      obtain ⟨A, B, rfl⟩ := List.append_of_mem (hp.mem_iff.mpr (List.mem_cons_self : x ∈ [x] ++ r.flatMap f))
      have hp2 : (A ++ B).Perm (r.flatMap f) := (List.perm_middle.symm.trans hp).cons_inv
      obtain ⟨qs, h1, h2⟩ := flat_perm hr hp2
      obtain ⟨U, V, rfl, h3, h4⟩ := flat_split (fun q m => hr q (h1.mem_iff.mp m)) h2
      refine ⟨U ++ p :: V, (List.perm_middle).trans (h1.cons p), ?_⟩
      rw [List.flatMap_append, List.flatMap_cons, hf, h3, h4]; rfl
    | x :: y :: z, hl => simp at hl
theorem flat_leaves {X : List Int} {f : Tr → List Tr} : ∀ {qs : List Tr}, (∀ p ∈ qs, PrOk X p (f p)) → leavesL (qs.flatMap f) = kept X (leavesL qs)
  | [], _ => rfl
  | p :: r, h => by
    rw [List.flatMap_cons, leavesL_append, leavesL_cons, kept_append, (h p List.mem_cons_self).leaves, flat_leaves fun q m => h q (List.mem_cons_of_mem _ m)]
theorem flat_len {X : List Int} {f : Tr → List Tr} : ∀ {qs : List Tr}, (∀ p ∈ qs, PrOk X p (f p)) → (qs.flatMap f).length ≤ qs.length
  | [], _ => by simp
  | p :: r, h => by
    have := flat_len fun q m => h q (List.mem_cons_of_mem _ m)
    have := (h p List.mem_cons_self).one
    rw [List.flatMap_cons, List.length_append, List.length_cons]
    omega
theorem flat_all {X : List Int} {f : Tr → List Tr} : ∀ {qs : List Tr}, (∀ p ∈ qs, PrOk X p (f p)) → (∀ x ∈ leavesL qs, x ∈ X) → qs.flatMap f = qs
  | [], _, _ => rfl
  | p :: r, h, ha => by
    rw [leavesL_cons] at ha
    rw [List.flatMap_cons, (h p List.mem_cons_self).all fun x m => ha x (List.mem_append_left _ m), flat_all (fun q m => h q (List.mem_cons_of_mem _ m)) fun x m => ha x (List.mem_append_right _ m)]; rfl
theorem mkAny_dep {L : List Tr} {n : Nat} (h : ∀ p ∈ L, p.dep ≤ n) : (mkAny L).dep ≤ n + 1 := by
  unfold mkAny
  split
  · rename_i p
    have := h p List.mem_cons_self
    omega
  · simp only [Tr.dep]
    have := depL_lub h
    omega
theorem mkRow_dep {L : List Tr} {n : Nat} (h : ∀ p ∈ L, p.dep ≤ n) : (mkRow L).dep ≤ n + 1 := by
  unfold mkRow
  split
  · exact mkAny_dep h
  · simp only [Tr.dep]
    have := depL_lub h
    omega
/-- the parts together -/
theorem prune_node {X : List Int} {f : Tr → List Tr} {w : Bool} {ps : List Tr} (hf : (Tr.node w ps).Form) (h : ∀ p ∈ ps, PrOk X p (f p)) :
    PrOk X (.node w ps) (if ps.flatMap f = [] then [] else [if w then mkAny (ps.flatMap f) else mkRow (ps.flatMap f)]) := by
  obtain ⟨f1, f2, f3⟩ := Form_node.mp hf
  have hform : ∀ p ∈ ps.flatMap f, p.Form := fun p m => by
    obtain ⟨q, m1, m2⟩ := List.mem_flatMap.mp m
    exact (h q m1).form p m2
  have hdep : ∀ p ∈ ps.flatMap f, p.dep ≤ depL ps := fun p m => by
    obtain ⟨q, m1, m2⟩ := List.mem_flatMap.mp m
    have := (h q m1).dep p m2
    have := depL_le m1
    omega
  have hl := flat_leaves h
  by_cases c : ps.flatMap f = []
  · rw [if_pos c]
    rw [c] at hl
    refine ⟨by simp, nofun, nofun, by rw [leaves_node]; exact hl, fun o' => ?_, fun ha => ?_⟩
    · rw [TS_nil]
      have key : ∀ o, o.Perm (leavesL ps) → kept X o = [] := fun o hp => by
        have : (kept X o).Perm (kept X (leavesL ps)) := hp.filter _
        rw [← hl] at this
        exact this.eq_nil
      constructor
      · rintro rfl
        exact ⟨_, told_self _, key _ (by rw [leaves_node])⟩
      · rintro ⟨o, h1, rfl⟩
        exact key o (by have := h1.perm; rwa [leaves_node] at this)
    · rw [flat_all h (by rwa [leaves_node] at ha)] at c
      rw [c] at f1
      simp at f1
  · rw [if_neg c]
    refine ⟨by simp, fun p m => ?_, fun p m => ?_, ?_, fun o' => ?_, fun ha => ?_⟩
    · simp only [List.mem_singleton] at m
      subst m
      cases w
      · exact mkRow_form c hform
      · exact mkAny_form c hform
    · simp only [List.mem_singleton] at m
      subst m
      have e : (Tr.node w ps).dep = depL ps + 1 := rfl
      rw [e]
      cases w
      · exact mkRow_dep hdep
      · exact mkAny_dep hdep
    · rw [leavesL_cons, leaves_node]
      cases w
      · simp only [Bool.false_eq_true, if_false, mkRow_leaves c, hl]
        simp [leavesL]
      · simp only [if_true, mkAny_leaves c, hl]
        simp [leavesL]
    · rw [TS_single]
      cases w with
      | true =>
        simp only [if_true, told_mkAny c]
        constructor
        · rintro ⟨M, h1, h2⟩
          obtain ⟨qs, h3, rfl⟩ := flat_perm (fun p m => (h p m).one) h1
          obtain ⟨o, h4, h5⟩ := (ts_flat fun p m => h p (h3.mem_iff.mp m)).mp h2
          exact ⟨o, told_node.mpr ⟨qs, h3, h4⟩, h5⟩
        · rintro ⟨o, h1, h2⟩
          obtain ⟨qs, h3, h4⟩ := told_node.mp h1
          have h3 : qs.Perm ps := h3
          exact ⟨qs.flatMap f, h3.flatMap_right f, (ts_flat fun p m => h p (h3.mem_iff.mp m)).mpr ⟨o, h4, h2⟩⟩
      | false =>
        simp only [Bool.false_eq_true, if_false]
        have told2 : ∀ o, Told (.node false ps) o ↔ TS ps o ∨ TS ps o.reverse := fun o => by
          rw [told_node, ← TS_reverse]
          constructor
          · rintro ⟨qs, h1 | h1, h2⟩
            · subst h1; exact .inl h2
            · subst h1; exact .inr h2
          · rintro (h2 | h2)
            · exact ⟨ps, (show Arr false ps ps from .inl rfl), h2⟩
            · exact ⟨ps.reverse, (show Arr false ps _ from .inr rfl), h2⟩
        have both : Told (mkRow (ps.flatMap f)) o' ↔ TS (ps.flatMap f) o' ∨ TS (ps.flatMap f) o'.reverse := by
          by_cases l2 : 2 ≤ (ps.flatMap f).length
          · exact told_mkRow l2
          · match hq : ps.flatMap f, l2, c with
            | [q], _, _ =>
              have : mkRow [q] = q := rfl
              rw [this, TS_single, TS_single]
              exact ⟨.inl, fun h => h.elim id fun h => by have := h.rev; rwa [List.reverse_reverse] at this⟩
            | [], _, c => exact absurd rfl c
            | a :: b :: d, l2, _ => simp at l2
        rw [both, ts_flat h, ts_flat h]
        constructor
        · rintro (⟨o, h1, h2⟩ | ⟨o, h1, h2⟩)
          · exact ⟨o, (told2 o).mpr (.inl h1), h2⟩
          · refine ⟨o.reverse, (told2 _).mpr (.inr (by rwa [List.reverse_reverse])), ?_⟩
            rw [kept_rev, h2, List.reverse_reverse]
        · rintro ⟨o, h1, rfl⟩
          rcases (told2 o).mp h1 with h1 | h1
          · exact .inl ⟨o, h1, rfl⟩
          · exact .inr ⟨o.reverse, h1, kept_rev⟩
    · rw [leaves_node] at ha
      rw [flat_all h ha]
      cases w
      · have := f2 rfl
        simp only [Bool.false_eq_true, if_false, mkRow]
        rw [if_neg (by omega)]
      · simp only [if_true]
        match ps, f1 with
        | a :: b :: r, _ => rfl
theorem prune_leaf {X : List Int} {i : Int} : PrOk X (.leaf i) (if i ∈ X then [.leaf i] else []) := by
  by_cases c : i ∈ X
  · rw [if_pos c]
    have k1 : kept X [i] = [i] := by simp [kept, c]
    refine ⟨by simp, fun p m => by simp at m; subst m; trivial, fun p m => by simp at m; subst m; exact Nat.le_refl _, by simp [leavesL, Tr.leaves, k1], fun o' => ?_, fun _ => rfl⟩
    rw [TS_single, told_leaf]
    constructor
    · rintro rfl; exact ⟨[i], told_leaf.mpr rfl, k1⟩
    · rintro ⟨o, h, rfl⟩
      rw [told_leaf.mp h, k1]
  · rw [if_neg c]
    have k1 : kept X [i] = [] := by simp [kept, c]
    refine ⟨by simp, nofun, nofun, by simp [leavesL, Tr.leaves, k1], fun o' => ?_, fun h => absurd (h i (by simp [Tr.leaves])) c⟩
    rw [TS_nil]
    constructor
    · rintro rfl; exact ⟨[i], told_leaf.mpr rfl, k1⟩
    · rintro ⟨o, h, rfl⟩
      rw [told_leaf.mp h, k1]
theorem pruned_within_ok {X : List Int} : ∀ {k : Nat} {t : Tr}, t.dep + 3 ≤ k → t.dep ≤ 30 → t.Form → t.leaves.length ≤ 1000 → ∃ L, f_pruned_within k t X = .ok L ∧ PrOk X t L := by
  intro k
  induction k with
  | zero => intro t h; omega
  | succ k ih =>
    intro t h hd hf hl
    cases t with
    | leaf i =>
      refine ⟨_, ?_, prune_leaf⟩
      have : f_is_thing k (.leaf i) = .ok true := is_thing_ok (by omega)
      by_cases c : i ∈ X
      · simp [f_pruned_within, this, compR, Tr.thing, c]
      · simp [f_pruned_within, this, compR, Tr.thing, c]
    | node w ps =>
      obtain ⟨f1, f2, f3⟩ := Form_node.mp hf
      rw [leaves_node] at hl
      have ht : f_is_thing k (.node w ps) = .ok false := is_thing_ok (by omega)
      have hex : ∀ p, ∃ L, p ∈ ps → f_pruned_within k p X = .ok L ∧ PrOk X p L := fun p => by
        by_cases m : p ∈ ps
        · obtain ⟨L, h1, h2⟩ := ih (t := p) (by have := dep_part (w := w) m; omega) (by have := dep_part (w := w) m; omega) (f3 p m) (by have := len_part m; omega)
          exact ⟨L, fun _ => ⟨h1, h2⟩⟩
        · exact ⟨[], fun q => absurd q m⟩
      obtain ⟨f, hff⟩ : ∃ f : Tr → List Tr, ∀ p ∈ ps, f_pruned_within k p X = .ok (f p) ∧ PrOk X p (f p) := ⟨fun p => (hex p).choose, fun p m => (hex p).choose_spec m⟩
      have hok : ∀ p ∈ ps, PrOk X p (f p) := fun p m => (hff p m).2
      refine ⟨_, ?_, prune_node hf hok⟩
      have hpl := parts_len f3
      simp only [f_pruned_within, ht, cnd_ok, Bool.false_eq_true, if_false, letR_ok, Tr.parts, bnd_ok]
      refine seq_inv (G := fun x => Fl.run x .st = .ok (if ps.flatMap f = [] then [] else [if w then mkAny (ps.flatMap f) else mkRow (ps.flatMap f)])) (fun i s => s = (ps.take i).flatMap f) (by simp) (fun i hi s hs => ?_) fun s hs => ?_
      · have m := List.getElem_mem hi
        have et : ps.take (i + 1) = ps.take i ++ [ps[i]] := by rw [List.take_succ, List.getElem?_eq_getElem hi]; rfl
        have l1 : s.length ≤ i := by
          rw [hs]
          have := flat_len (qs := ps.take i) fun p m => hok p (List.mem_of_mem_take m)
          rw [List.length_take] at this
          omega
        have l2 := (hok _ m).one
        refine ⟨s ++ f ps[i], ?_, ?_⟩
        · rw [(hff _ m).1, letR_ok, extL_ok (by omega)]
        · rw [et, List.flatMap_append, hs]
          simp
      · rw [List.take_length] at hs
        subst hs
        have hdep : ∀ p ∈ ps.flatMap f, p.dep ≤ 31 := fun p m => by
          obtain ⟨q, m1, m2⟩ := List.mem_flatMap.mp m
          have := (hok q m1).dep p m2
          have := dep_part (w := w) m1
          omega
        rw [eqNil_tr hdep]
        simp only [cnd_ok]
        by_cases c : ps.flatMap f = []
        · rw [c]
          simp
        · have b : (ps.flatMap f).isEmpty = false := by simpa using c
          rw [b, if_neg c]
          have e1 := make_any_eq (k := k) (by omega) c
          have e2 := make_row_eq (k := k) (by omega) c
          cases w
          · simp [Tr.word, e2]
          · simp [Tr.word, e1]
theorem pruned_ok {k n : Nat} {t : Tr} {X : List Int} (h : Over n t) (hX : VSet n X) (hne : X ≠ []) (hn : n ≤ 24) (hk : 100 ≤ k) : ∃ r, f_pruned k t X = .ok r ∧ r.Norm ∧ r.Form ∧ r.leaves.Perm X ∧ (∀ o', Told r o' ↔ ∃ o, Told t o ∧ kept X o = o') ∧ ((∀ x ∈ t.leaves, x ∈ X) → r = t.norm) ∧ r.dep ≤ t.dep := by
  obtain ⟨k, rfl, hk⟩ := succ_of hk
  have hd := h.dep
  obtain ⟨L, e, hL⟩ := pruned_within_ok (k := k) (t := t) (X := X) (by omega) (by omega) h.form (by rw [h.len]; omega)
  have pX : (leavesL L).Perm X := by
    rw [hL.leaves]
    refine perm_of_iff (h.nodup.filter _) (sort_nodup hX.sort) fun x => ?_
    simp only [kept, List.mem_filter, memB_eq, decide_eq_true_eq]
    refine ⟨fun q => q.2, fun q => ⟨h.perm.mem_iff.mpr (iota_mem.mpr (by have := hX.mem x q; omega)), q⟩⟩
  have hone := hL.one
  match L, hL, e, pX, hone with
  | [], hL, e, pX, _ => exact absurd pX.symm.eq_nil hne
  | [p], hL, e, pX, _ =>
    have pl : leavesL [p] = p.leaves := by rw [leavesL_cons]; simp [leavesL]
    rw [pl] at pX
    have hpf := hL.form p List.mem_cons_self
    have hpd := hL.dep p List.mem_cons_self
    have hpn : p.leaves.Nodup := pX.nodup_iff.mpr (sort_nodup hX.sort)
    have hpl : p.leaves.length ≤ n := by rw [pX.length_eq]; exact hX.len
    have e2 := normalized_ok (k := k) (t := p) (by omega) hpf hpn (by omega)
    have e3 : atL [p] 0 = .ok p := rfl
    have b : decide ((X.length : Int) = 0) = false := decide_eq_false (by have := List.length_pos_iff.mpr hne; omega)
    refine ⟨p.norm, ?_, norm_Norm p, (norm_same p).form hpf, (norm_same p).leaves.trans pX, fun o' => ?_, fun ha => ?_, by rw [(norm_same p).dep]; exact hpd⟩
    · simp only [f_pruned, need_tree_ok h hn (show 31 ≤ k by omega), letR_ok, listed_ok (show t.dep + 2 ≤ k by omega) (show t.leaves.length ≤ 1000000 by rw [h.len]; omega), bnd_ok, h.len, check_set_ok hX h.pos hn (show 2 ≤ k by omega), b, cnd_ok, Bool.false_eq_true, if_false, e, e3, e2, run_rt]
    · rw [told_norm, ← TS_single]
      exact hL.told o'
    · have := hL.all ha
      cases this
      rfl
  | a :: b :: c, _, _, _, hone => simp at hone
theorem pruned_none {k n : Nat} {t : Tr} (h : Over n t) (hn : n ≤ 24) (hk : 100 ≤ k) : f_pruned k t [] = .ex "OutOfRange" := by
  obtain ⟨k, rfl, hk⟩ := succ_of hk
  have hd := h.dep
  simp only [f_pruned, need_tree_ok h hn (show 31 ≤ k by omega), letR_ok, listed_ok (show t.dep + 2 ≤ k by omega) (show t.leaves.length ≤ 1000000 by rw [h.len]; omega), bnd_ok, h.len, check_set_ok (C := []) ⟨.nil, nofun⟩ h.pos hn (show 2 ≤ k by omega)]
  rfl
/-! ### all orders, none left out -/
theorem ord_cut {n : Nat} {o : List Int} (h : Ord (n + 1) o) : ∃ o' a, Ord n o' ∧ a ≤ n ∧ o = o'.take a ++ [(n : Int)] ++ o'.drop a := by
  have e : iota 0 (n + 1) = iota 0 n ++ [(n : Int)] := by
    rw [iota_append]
    simp [iota]
  unfold Ord at h
  rw [e] at h
  obtain ⟨A, B, rfl⟩ := List.append_of_mem (h.mem_iff.mpr (List.mem_append_right _ List.mem_cons_self : (n : Int) ∈ iota 0 n ++ [(n : Int)]))
  have h2 : (A ++ B).Perm (iota 0 n) := (List.perm_middle.symm.trans (h.trans (List.perm_append_singleton _ _))).cons_inv
  have hl := h2.length_eq
  rw [iota_len, List.length_append] at hl
  exact ⟨A ++ B, A.length, h2, by omega, by rw [List.take_left, List.drop_left]; simp⟩
theorem orders_all {k n : Nat} (hn : n ≤ 5) (hk : 1 ≤ k) : ∃ os, f_law_orders k (n : Int) = .ok os ∧ (∀ o, o ∈ os ↔ Ord n o) ∧ os.length ≤ 6 ^ n := by
  obtain ⟨k, rfl, _⟩ := succ_of hk
  simp only [f_law_orders, letR_ok, rng0 (show n ≤ 1000000 by omega)]
  refine seq_inv (G := fun x => ∃ os : List (List Int), Fl.run x .st = .ok os ∧ (∀ o, o ∈ os ↔ Ord n o) ∧ os.length ≤ 6 ^ n) (fun i (s : List (List Int)) => (∀ o, o ∈ s ↔ Ord i o) ∧ s.length ≤ 6 ^ i) ⟨fun o => by simp [Ord, iota], by simp⟩ (fun i hi s h => ?_) fun s h => ?_
  · rw [iota_getE hi]
    rw [iota_len] at hi
    have e0 : (0 : Int) + (i : Int) = (i : Int) := by omega
    rw [e0]
    have hb : 6 ^ i ≤ 6 ^ 4 := Nat.pow_le_pow_right (by omega) (by omega)
    refine seq_inv (G := fun x => ∃ s' : List (List Int), x = .nx s' ∧ (∀ o, o ∈ s' ↔ Ord (i + 1) o) ∧ s'.length ≤ 6 ^ (i + 1)) (fun j (s' : List (List Int)) => (∀ o, o ∈ s' ↔ ∃ o' ∈ s.take j, ∃ a, a ≤ i ∧ o = o'.take a ++ [(i : Int)] ++ o'.drop a) ∧ s'.length ≤ 6 * j) ⟨fun o => by simp, by simp⟩ (fun j hj s' h' => ?_) fun s' h' => ?_
    · have ho := (h.1 _).mp (List.getElem_mem hj)
      have hl := ho.len
      have el : ((s[j].length : Int) + 1) = ((i + 1 : Nat) : Int) := by omega
      rw [el]
      simp only [rng0 (show i + 1 ≤ 1000000 by omega), letR_ok]
      have et : s.take (j + 1) = s.take j ++ [s[j]] := by rw [List.take_succ, List.getElem?_eq_getElem hj]; rfl
      refine seq_inv (G := fun x => ∃ s' : List (List Int), x = .nx s' ∧ (∀ o, o ∈ s' ↔ ∃ o' ∈ s.take (j + 1), ∃ a, a ≤ i ∧ o = o'.take a ++ [(i : Int)] ++ o'.drop a) ∧ s'.length ≤ 6 * (j + 1)) (fun a (s3 : List (List Int)) => (∀ o, o ∈ s3 ↔ o ∈ s' ∨ ∃ b, b < a ∧ o = s[j].take b ++ [(i : Int)] ++ s[j].drop b) ∧ s3.length ≤ 6 * j + a) ⟨fun o => by simp, by omega⟩ (fun a ha s3 h3 => ?_) fun s3 h3 => ?_
      · rw [iota_getE ha]
        rw [iota_len] at ha
        have e1 : (0 : Int) + (a : Int) = (a : Int) := by omega
        rw [e1, cut_take (show (0 : Int) ≤ (a : Int) by omega), cut_drop (show (0 : Int) ≤ (a : Int) by omega), Int.toNat_natCast]
        refine ⟨s3 ++ [s[j].take a ++ [(i : Int)] ++ s[j].drop a], ?_, ?_, ?_⟩
        · rw [catL_ok (by simp; omega), bnd_ok, catL_ok (by simp; omega), letR_ok, appL_ok (by omega)]
        · intro o
          rw [List.mem_append, List.mem_singleton, h3.1 o]
          constructor
          · rintro ((q | ⟨b, q1, q2⟩) | q)
            · exact .inl q
            · exact .inr ⟨b, by omega, q2⟩
            · exact .inr ⟨a, by omega, q⟩
          · rintro (q | ⟨b, q1, q2⟩)
            · exact .inl (.inl q)
            · by_cases c : b = a
              · subst c; exact .inr q2
              · exact .inl (.inr ⟨b, by omega, q2⟩)
        · simp; omega
      · rw [iota_len] at h3
        refine ⟨s3, rfl, fun o => ?_, by omega⟩
        rw [h3.1 o, h'.1 o, et]
        constructor
        · rintro (⟨o', m, a, q1, q2⟩ | ⟨a, q1, q2⟩)
          · exact ⟨o', List.mem_append_left _ m, a, q1, q2⟩
          · exact ⟨s[j], List.mem_append_right _ List.mem_cons_self, a, by omega, q2⟩
        · rintro ⟨o', m, a, q1, q2⟩
          rw [List.mem_append, List.mem_singleton] at m
          rcases m with m | rfl
          · exact .inl ⟨o', m, a, q1, q2⟩
          · exact .inr ⟨a, by omega, q2⟩
    · rw [List.take_length] at h'
      refine ⟨s', rfl, fun o => ?_, by rw [Nat.pow_succ]; omega⟩
      rw [h'.1 o]
      constructor
      · rintro ⟨o', m, a, _, rfl⟩
        exact ord_ins ((h.1 o').mp m) a
      · intro ho
        obtain ⟨o', a, h1, h2, h3⟩ := ord_cut ho
        exact ⟨o', (h.1 o').mpr h1, a, h2, h3⟩
  · rw [iota_len] at h
    exact ⟨s, rfl, h⟩
end PC

/-! the law: its text as the intermediate language, its head -/
namespace K25
open PySem PySem.Spec PyProof.Rows L2 PC
def ir_is_size : List S := [.ret (.cmp (.int 1) (.more .le (.v 0) (.one .le (.int 24))))]
def N_is_size : List Str := ["n"]
def ir_is_set : List S := [.for_ (.n 2) (.r1 (.bi .len (.cons (.v 1) .nil))) [.ite (.not (.cmp (.int 0) (.more .le (.ix (.v 1) (.v 2)) (.one .lt (.v 0))))) [.ret (.bl false)] [], .ite (.and (.cmp (.v 2) (.one .gt (.int 0))) (.cmp (.ix (.v 1) (.op .sub (.v 2) (.int 1))) (.one .ge (.ix (.v 1) (.v 2))))) [.ret (.bl false)] []], .ret (.bl true)]
def N_is_set : List Str := ["n", "chosen", "at"]
def ir_check_set : List S := [.ite (.or (.not (.call "is_size" (.cons (.v 0) .nil))) (.not (.call "is_set" (.cons (.v 0) (.cons (.v 1) .nil))))) [.raise "InvalidTable"] [], .ret (.v 1)]
def N_check_set : List Str := ["n", "chosen"]
def ir_is_thing : List S := [.ret (.bi .isInt (.cons (.v 0) .nil))]
def N_is_thing : List Str := ["tree"]
def ir_listed : List S := [.ite (.call "is_thing" (.cons (.v 0) .nil)) [.ret (.lst (.cons (.v 0) .nil))] [], .asg (.n 1) (.lst .nil), .for_ (.n 2) (.e (.ix (.v 0) (.int 1))) [.ext 1 (.call "listed" (.cons (.v 2) .nil))], .ret (.v 1)]
def N_listed : List Str := ["tree", "found", "part"]
def ir_least_thing : List S := [.ret (.bi .min1 (.cons (.call "listed" (.cons (.v 0) .nil)) .nil))]
def N_least_thing : List Str := ["tree"]
def ir_has_form : List S := [.ite (.call "is_thing" (.cons (.v 0) .nil)) [.ret (.bl true)] [], .ite (.or (.cmp (.bi .len (.cons (.v 0) .nil)) (.one .ne (.int 2))) (.or (.bi (.ninC [.str "any", .str "row"]) (.cons (.ix (.v 0) (.int 0)) .nil)) (.or (.call "is_thing" (.cons (.ix (.v 0) (.int 1)) .nil)) (.bi .isStr (.cons (.ix (.v 0) (.int 1)) .nil))))) [.ret (.bl false)] [], .ite (.or (.cmp (.bi .len (.cons (.ix (.v 0) (.int 1)) .nil)) (.one .lt (.int 2))) (.and (.cmp (.ix (.v 0) (.int 0)) (.one .eq (.str "row"))) (.cmp (.bi .len (.cons (.ix (.v 0) (.int 1)) .nil)) (.one .lt (.int 3))))) [.ret (.bl false)] [], .ret (.bi .all (.cons (.lc [1] (.n 1) (.e (.ix (.v 0) (.int 1))) .no (.call "has_form" (.cons (.v 1) .nil))) .nil))]
def N_has_form : List Str := ["tree", "part"]
def ir_check_tree : List S := [.ite (.or (.not (.call "is_size" (.cons (.v 0) .nil))) (.or (.not (.call "has_form" (.cons (.v 1) .nil))) (.cmp (.bi .sorted (.cons (.call "listed" (.cons (.v 1) .nil)) .nil)) (.one .ne (.bi .listR1 (.cons (.v 0) .nil)))))) [.raise "InvalidTree"] [], .ret (.v 1)]
def N_check_tree : List Str := ["n", "tree"]
def ir_need_tree : List S := [.ite (.not (.call "has_form" (.cons (.v 0) .nil))) [.raise "InvalidTree"] [], .exp (.call "check_tree" (.cons (.bi .len (.cons (.call "listed" (.cons (.v 0) .nil)) .nil)) (.cons (.v 0) .nil)))]
def N_need_tree : List Str := ["tree"]
def ir_things_of : List S := [.ite (.not (.call "has_form" (.cons (.v 0) .nil))) [.raise "InvalidTree"] [], .asg (.n 1) (.bi .tuple (.cons (.bi .sorted (.cons (.call "listed" (.cons (.v 0) .nil)) .nil)) .nil)), .ite (.or (.cmp (.ix (.v 1) (.int 0)) (.one .lt (.int 0))) (.cmp (.bi .lenSet (.cons (.v 1) .nil)) (.one .lt (.bi .len (.cons (.v 1) .nil))))) [.raise "InvalidTree"] [], .ret (.v 1)]
def N_things_of : List Str := ["tree", "found"]
def ir_make_any : List S := [.ite (.cmp (.bi .len (.cons (.v 0) .nil)) (.one .eq (.int 1))) [.ret (.ix (.v 0) (.int 0))] [], .ret (.tup (.cons (.str "any") (.cons (.bi .tuple (.cons (.v 0) .nil)) .nil)))]
def N_make_any : List Str := ["parts"]
def ir_make_row : List S := [.ite (.cmp (.bi .len (.cons (.v 0) .nil)) (.one .lt (.int 3))) [.ret (.call "make_any" (.cons (.v 0) .nil))] [], .ret (.tup (.cons (.str "row") (.cons (.bi .tuple (.cons (.v 0) .nil)) .nil)))]
def N_make_row : List Str := ["parts"]
def ir_normalized : List S := [.ite (.call "is_thing" (.cons (.v 0) .nil)) [.ret (.v 0)] [], .asg (.n 1) (.lc [3] (.n 3) (.e (.ix (.v 0) (.int 1))) .no (.call "normalized" (.cons (.v 3) .nil))), .ite (.cmp (.ix (.v 0) (.int 0)) (.one .eq (.str "any"))) [.asg (.n 2) (.bi .sorted (.cons (.lc [4, 3] (.t [4, 3]) (.en (.v 1)) .no (.tup (.cons (.call "least_thing" (.cons (.v 3) .nil)) (.cons (.v 4) .nil)))) .nil)), .ret (.tup (.cons (.str "any") (.cons (.bi .tuple (.cons (.lc [5, 4] (.t [5, 4]) (.e (.v 2)) .no (.ix (.v 1) (.v 4))) .nil)) .nil)))] [], .ite (.cmp (.call "least_thing" (.cons (.ix (.v 1) (.int 0)) .nil)) (.one .gt (.call "least_thing" (.cons (.ix (.v 1) (.bi .neg (.cons (.int 1) .nil))) .nil)))) [.asg (.n 1) (.rev (.v 1))] [], .ret (.tup (.cons (.str "row") (.cons (.bi .tuple (.cons (.v 1) .nil)) .nil)))]
def N_normalized : List Str := ["tree", "parts", "order", "part", "index", "_"]
def ir_normal : List S := [.exp (.call "things_of" (.cons (.v 0) .nil)), .ret (.call "normalized" (.cons (.v 0) .nil))]
def N_normal : List Str := ["tree"]
def ir_pruned_within : List S := [.ite (.call "is_thing" (.cons (.v 0) .nil)) [.ret (.lc [4] (.n 4) (.e (.lst (.cons (.v 0) .nil))) (.yes (.cmp (.v 4) (.one .in_ (.v 1)))) (.v 4))] [], .asg (.n 2) (.lst .nil), .for_ (.n 3) (.e (.ix (.v 0) (.int 1))) [.ext 2 (.call "pruned_within" (.cons (.v 3) (.cons (.v 1) .nil)))], .ite (.cmp (.v 2) (.one .eq (.lst .nil))) [.ret (.lst .nil)] [], .ite (.cmp (.ix (.v 0) (.int 0)) (.one .eq (.str "any"))) [.ret (.lst (.cons (.call "make_any" (.cons (.v 2) .nil)) .nil))] [], .ret (.lst (.cons (.call "make_row" (.cons (.v 2) .nil)) .nil))]
def N_pruned_within : List Str := ["tree", "things", "parts", "part", "thing"]
def ir_pruned : List S := [.exp (.call "need_tree" (.cons (.v 0) .nil)), .exp (.call "check_set" (.cons (.bi .len (.cons (.call "listed" (.cons (.v 0) .nil)) .nil)) (.cons (.v 1) .nil))), .ite (.cmp (.bi .len (.cons (.v 1) .nil)) (.one .eq (.int 0))) [.raise "OutOfRange"] [], .ret (.call "normalized" (.cons (.ix (.call "pruned_within" (.cons (.v 0) (.cons (.v 1) .nil))) (.int 0)) .nil))]
def N_pruned : List Str := ["tree", "things"]
def ir__law_cell : List S := [.ite (.cmp (.v 1) (.one .lt (.bi .len (.cons (.v 0) .nil)))) [.ret (.ix (.v 0) (.v 1))] [], .ret (.int 0)]
def N__law_cell : List Str := ["_law_script", "_law_k"]
def ir__law_digits : List S := [.asg (.n 2) (.lst .nil), .for_ (.n 3) (.e (.v 1)) [.app 2 (.op .mod (.bi .int (.cons (.v 0) .nil)) (.v 3)), .asg (.n 0) (.op .div (.v 0) (.v 3))], .ret (.v 2)]
def N__law_digits : List Str := ["_law_cell_here", "_law_sizes", "_law_row", "_law_size"]
def ir__law_rich : List S := [.ite (.cmp (.v 0) (.one .ge (.op .pow (.int 10) (.int 18)))) [.ret (.v 0)] [], .asg (.n 1) (.op .mod (.bi .int (.cons (.op .add (.op .mul (.v 0) (.int 48271)) (.int 11)) .nil)) (.int 2147483647)), .asg (.n 2) (.op .mod (.bi .int (.cons (.op .add (.op .add (.op .mul (.v 1) (.int 69621)) (.op .div (.v 0) (.int 7))) (.int 5)) .nil)) (.int 2147483629)), .ret (.op .add (.op .mul (.v 1) (.int 2147483629)) (.v 2))]
def N__law_rich : List Str := ["_law_cell_here", "_law_low", "_law_high"]
def ir__law_order : List S := [.asg (.n 2) (.lc [6] (.n 6) (.r1 (.v 1)) .no (.v 6)), .asg (.n 3) (.call "_law_rich" (.cons (.v 0) .nil)), .asg (.n 4) (.lst .nil), .for_ (.n 5) (.r1 (.v 1)) [.appPop 4 2 (.op .mod (.bi .int (.cons (.v 3) .nil)) (.op .sub (.v 1) (.v 5))), .asg (.n 3) (.op .div (.v 3) (.op .sub (.v 1) (.v 5))), .ite (.cmp (.v 3) (.one .eq (.int 0))) [.asg (.n 3) (.call "_law_rich" (.cons (.op .add (.op .add (.v 0) (.v 5)) (.int 1)) .nil))] []], .ret (.bi .tuple (.cons (.v 4) .nil))]
def N__law_order : List Str := ["_law_cell_here", "_law_n", "_law_left", "_law_rest", "_law_order_here", "_law_k", "_law_thing"]
def ir__law_set : List S := [.asg (.n 2) (.call "_law_rich" (.cons (.v 0) .nil)), .ret (.bi .tuple (.cons (.lc [3] (.n 3) (.r1 (.v 1)) (.yes (.cmp (.op .mod (.bi .int (.cons (.op .div (.op .div (.v 2) (.op .add (.v 3) (.int 1))) (.op .add (.int 1) (.op .mul (.v 3) (.v 3)))) .nil)) (.int 2)) (.one .eq (.int 1)))) (.v 3)) .nil))]
def N__law_set : List Str := ["_law_cell_here", "_law_n", "_law_bits", "_law_thing"]
def ir__law_things : List S := [.ite (.bi .isInt (.cons (.v 0) .nil)) [.ret (.lst (.cons (.v 0) .nil))] [], .asg (.n 1) (.lst .nil), .for_ (.n 2) (.e (.ix (.v 0) (.int 1))) [.asg (.n 1) (.op .add (.v 1) (.call "_law_things" (.cons (.v 2) .nil)))], .ret (.v 1)]
def N__law_things : List Str := ["_law_tree_here", "_law_found", "_law_part"]
def ir__law_told : List S := [.ite (.bi .isInt (.cons (.v 0) .nil)) [.ret (.cmp (.bi .tuple (.cons (.v 1) .nil)) (.one .eq (.tup (.cons (.v 0) .nil))))] [], .asg (.n 2) (.bi .tuple (.cons (.v 1) .nil)), .asg (.n 3) (.lst .nil), .for_ (.n 4) (.r1 (.bi .len (.cons (.ix (.v 0) (.int 1)) .nil))) [.for_ (.n 5) (.r1 (.bi .len (.cons (.ix (.v 0) (.int 1)) .nil))) [.asg (.n 6) (.bi .len (.cons (.call "_law_things" (.cons (.ix (.ix (.v 0) (.int 1)) (.v 5)) .nil)) .nil)), .ite (.and (.cmp (.v 5) (.one .nin (.v 3))) (.cmp (.bi .sorted (.cons (.sl (.v 2) .no (.yes (.v 6))) .nil)) (.one .eq (.bi .sorted (.cons (.call "_law_things" (.cons (.ix (.ix (.v 0) (.int 1)) (.v 5)) .nil)) .nil))))) [.ite (.not (.call "_law_told" (.cons (.ix (.ix (.v 0) (.int 1)) (.v 5)) (.cons (.sl (.v 2) .no (.yes (.v 6))) .nil)))) [.ret (.bl false)] [], .app 3 (.v 5), .asg (.n 2) (.sl (.v 2) (.yes (.v 6)) .no), .brk] []]], .ite (.or (.cmp (.bi .len (.cons (.v 3) .nil)) (.one .lt (.bi .len (.cons (.ix (.v 0) (.int 1)) .nil)))) (.cmp (.bi .len (.cons (.v 2) .nil)) (.one .gt (.int 0)))) [.ret (.bl false)] [], .ret (.or (.cmp (.ix (.v 0) (.int 0)) (.one .eq (.str "any"))) (.or (.cmp (.v 3) (.one .eq (.bi .sorted (.cons (.v 3) .nil)))) (.cmp (.v 3) (.one .eq (.rev (.bi .sorted (.cons (.v 3) .nil)))))))]
def N__law_told : List Str := ["_law_tree_here", "_law_order_here", "_law_rest", "_law_sequence", "_law_step", "_law_k", "_law_size"]
def ir__law_tree : List S := [.asg (.n 2) (.bi .list (.cons (.call "_law_order" (.cons (.v 0) (.cons (.v 1) .nil))) .nil)), .asg (.n 3) (.call "_law_rich" (.cons (.op .add (.op .div (.v 0) (.int 3)) (.int 7)) .nil)), .for_ (.n 4) (.r1 (.int 30)) [.ite (.cmp (.bi .len (.cons (.v 2) .nil)) (.one .lt (.int 2))) [.brk] [], .asg (.n 5) (.op .add (.int 2) (.op .mod (.bi .int (.cons (.v 3) .nil)) (.int 4))), .ite (.cmp (.op .mod (.bi .int (.cons (.op .div (.v 3) (.int 1024)) .nil)) (.int 8)) (.one .eq (.int 5))) [.asg (.n 5) (.int 24)] [], .asg (.n 6) (.op .mod (.bi .int (.cons (.op .div (.v 3) (.int 4)) .nil)) (.bi .len (.cons (.v 2) .nil))), .asg (.n 7) (.sl (.v 2) (.yes (.v 6)) (.yes (.op .add (.v 6) (.v 5)))), .ite (.cmp (.bi .len (.cons (.v 7) .nil)) (.one .gt (.int 1))) [.asg (.n 8) (.str "any"), .ite (.and (.cmp (.bi .len (.cons (.v 7) .nil)) (.one .gt (.int 2))) (.cmp (.op .mod (.bi .int (.cons (.op .div (.v 3) (.int 64)) .nil)) (.int 2)) (.one .eq (.int 1)))) [.asg (.n 8) (.str "row")] [], .asg (.n 2) (.op .add (.op .add (.sl (.v 2) .no (.yes (.v 6))) (.lst (.cons (.tup (.cons (.v 8) (.cons (.bi .tuple (.cons (.v 7) .nil)) .nil))) .nil))) (.sl (.v 2) (.yes (.op .add (.v 6) (.v 5))) .no))] [], .asg (.n 3) (.op .add (.op .add (.op .div (.v 3) (.int 5)) (.op .mul (.int 1000003) (.v 4))) (.int 17))], .ite (.cmp (.bi .len (.cons (.v 2) .nil)) (.one .gt (.int 1))) [.asg (.n 2) (.lst (.cons (.tup (.cons (.str "any") (.cons (.bi .tuple (.cons (.v 2) .nil)) .nil))) .nil))] [], .ret (.ix (.v 2) (.int 0))]
def N__law_tree : List Str := ["_law_cell_here", "_law_n", "_law_parts", "_law_rest", "_law_step", "_law_size", "_law_at", "_law_chosen", "_law_word"]
def ir__law_shuffled : List S := [.ite (.bi .isInt (.cons (.v 0) .nil)) [.ret (.v 0)] [], .asg (.n 2) (.lst .nil), .asg (.n 3) (.call "_law_rich" (.cons (.v 1) .nil)), .for_ (.n 4) (.e (.ix (.v 0) (.int 1))) [.asg (.n 5) (.call "_law_shuffled" (.cons (.v 4) (.cons (.op .add (.op .div (.v 3) (.int 3)) (.int 5)) .nil))), .ite (.cmp (.ix (.v 0) (.int 0)) (.one .eq (.str "any"))) [.ins 2 (.op .mod (.bi .int (.cons (.v 3) .nil)) (.op .add (.bi .len (.cons (.v 2) .nil)) (.int 1))) (.v 5)] [.app 2 (.v 5)], .asg (.n 3) (.op .add (.op .div (.v 3) (.int 7)) (.int 99))], .ite (.and (.cmp (.ix (.v 0) (.int 0)) (.one .eq (.str "row"))) (.cmp (.op .mod (.bi .int (.cons (.v 1) .nil)) (.int 2)) (.one .eq (.int 1)))) [.asg (.n 2) (.rev (.v 2))] [], .ret (.tup (.cons (.ix (.v 0) (.int 0)) (.cons (.bi .tuple (.cons (.v 2) .nil)) .nil)))]
def N__law_shuffled : List Str := ["_law_tree_here", "_law_cell_here", "_law_parts", "_law_rest", "_law_part", "_law_told_here"]
def ir__law_is_normal : List S := [.ite (.and (.bi .isInt (.cons (.v 0) .nil)) (.not (.bi .isBool (.cons (.v 0) .nil)))) [.ret (.bl true)] [], .ite (.or (.not (.bi .isTup (.cons (.v 0) .nil))) (.or (.cmp (.bi .len (.cons (.v 0) .nil)) (.one .ne (.int 2))) (.or (.cmp (.ix (.v 0) (.int 0)) (.one .nin (.lst (.cons (.str "any") (.cons (.str "row") .nil))))) (.not (.bi .isTup (.cons (.ix (.v 0) (.int 1)) .nil)))))) [.ret (.bl false)] [], .ite (.or (.cmp (.bi .len (.cons (.ix (.v 0) (.int 1)) .nil)) (.one .lt (.op .add (.int 2) (.bi .int (.cons (.cmp (.ix (.v 0) (.int 0)) (.one .eq (.str "row"))) .nil))))) (.cmp (.lc [2] (.n 2) (.e (.ix (.v 0) (.int 1))) (.yes (.not (.call "_law_is_normal" (.cons (.v 2) .nil)))) (.v 2)) (.one .ne (.lst .nil)))) [.ret (.bl false)] [], .asg (.n 1) (.lc [2] (.n 2) (.e (.ix (.v 0) (.int 1))) .no (.bi .min1 (.cons (.call "_law_things" (.cons (.v 2) .nil)) .nil))), .ite (.cmp (.ix (.v 0) (.int 0)) (.one .eq (.str "any"))) [.ret (.cmp (.v 1) (.one .eq (.bi .sorted (.cons (.v 1) .nil))))] [], .ret (.cmp (.ix (.v 1) (.int 0)) (.one .lt (.ix (.v 1) (.bi .neg (.cons (.int 1) .nil)))))]
def N__law_is_normal : List Str := ["_law_tree_here", "_law_leasts", "_law_part"]
def ir__law_orders : List S := [.asg (.n 1) (.lst (.cons (.tup .nil) .nil)), .for_ (.n 2) (.r1 (.v 0)) [.asg (.n 3) (.lst .nil), .for_ (.n 4) (.e (.v 1)) [.for_ (.n 5) (.r1 (.op .add (.bi .len (.cons (.v 4) .nil)) (.int 1))) [.app 3 (.op .add (.op .add (.sl (.v 4) .no (.yes (.v 5))) (.tup (.cons (.v 2) .nil))) (.sl (.v 4) (.yes (.v 5)) .no))]], .asg (.n 1) (.v 3)], .ret (.v 1)]
def N__law_orders : List Str := ["_law_n", "_law_orders_here", "_law_thing", "_law_longer", "_law_order_here", "_law_at"]
def ir__law_drawn_order : List S := [.ite (.bi .isInt (.cons (.v 0) .nil)) [.ret (.tup (.cons (.v 0) .nil))] [], .asg (.n 2) (.tup .nil), .for_ (.n 3) (.e (.ix (.call "_law_shuffled" (.cons (.v 0) (.cons (.v 1) .nil))) (.int 1))) [.asg (.n 2) (.op .add (.v 2) (.call "_law_drawn_order" (.cons (.v 3) (.cons (.op .add (.op .div (.v 1) (.int 3)) (.int 11)) .nil))))], .ret (.v 2)]
def N__law_drawn_order : List Str := ["_law_tree_here", "_law_cell_here", "_law_order_here", "_law_part"]
def ir_law : List S := [.asg (.n 1) (.call "_law_digits" (.cons (.call "_law_rich" (.cons (.call "_law_cell" (.cons (.v 0) (.cons (.int 0) .nil))) .nil)) (.cons (.lst (.cons (.int 9) (.cons (.int 2) .nil))) .nil))), .asg (.n 2) (.op .add (.int 1) (.ix (.lst (.cons (.ix (.v 1) (.int 0)) (.cons (.op .mod (.bi .int (.cons (.ix (.v 1) (.int 0)) .nil)) (.int 5)) .nil))) (.ix (.v 1) (.int 1)))), .asg (.n 3) (.call "_law_tree" (.cons (.call "_law_cell" (.cons (.v 0) (.cons (.int 1) .nil))) (.cons (.v 2) .nil))), .asg (.n 4) (.bl false), .try_ [.exp (.call "pruned" (.cons (.v 3) (.cons (.tup .nil) .nil)))] ["UnpartedError", "InvalidTable", "InvalidTree", "OutOfRange"] "OutOfRange" none [.asg (.n 4) (.bl true)], .ite (.or (.not (.v 4)) (.cmp (.call "pruned" (.cons (.v 3) (.cons (.bi .tuple (.cons (.lc [11] (.n 11) (.r1 (.v 2)) .no (.v 11)) .nil)) .nil))) (.one .ne (.call "normal" (.cons (.v 3) .nil))))) [.ret (.bl false)] [], .asg (.n 5) (.call "_law_set" (.cons (.call "_law_cell" (.cons (.v 0) (.cons (.int 2) .nil))) (.cons (.v 2) .nil))), .ite (.cmp (.v 5) (.one .eq (.tup .nil))) [.asg (.n 5) (.tup (.cons (.op .mod (.bi .int (.cons (.call "_law_rich" (.cons (.call "_law_cell" (.cons (.v 0) (.cons (.int 2) .nil))) .nil)) .nil)) (.v 2)) .nil))] [], .asg (.n 6) (.call "pruned" (.cons (.v 3) (.cons (.v 5) .nil))), .ite (.or (.not (.call "_law_is_normal" (.cons (.v 6) .nil))) (.cmp (.bi .sorted (.cons (.call "_law_things" (.cons (.v 6) .nil)) .nil)) (.one .ne (.bi .list (.cons (.v 5) .nil))))) [.ret (.bl false)] [], .for_ (.n 7) (.r1 (.int 6)) [.asg (.n 9) (.call "_law_drawn_order" (.cons (.v 3) (.cons (.call "_law_rich" (.cons (.op .add (.call "_law_cell" (.cons (.v 0) (.cons (.int 3) .nil))) (.v 7)) .nil)) .nil))), .ite (.not (.call "_law_told" (.cons (.v 6) (.cons (.bi .tuple (.cons (.lc [11] (.n 11) (.e (.v 9)) (.yes (.cmp (.v 11) (.one .in_ (.v 5)))) (.v 11)) .nil)) .nil)))) [.ret (.bl false)] []], .ite (.cmp (.v 2) (.one .gt (.int 5))) [.ret (.bl true)] [], .asg (.n 8) (.lst .nil), .for_ (.n 9) (.e (.call "_law_orders" (.cons (.v 2) .nil))) [.ite (.call "_law_told" (.cons (.v 3) (.cons (.v 9) .nil))) [.app 8 (.bi .tuple (.cons (.lc [11] (.n 11) (.e (.v 9)) (.yes (.cmp (.v 11) (.one .in_ (.v 5)))) (.v 11)) .nil))] []], .for_ (.n 9) (.e (.call "_law_orders" (.cons (.bi .len (.cons (.v 5) .nil)) .nil))) [.asg (.n 10) (.bi .tuple (.cons (.lc [7] (.n 7) (.e (.v 9)) .no (.ix (.v 5) (.v 7))) .nil)), .ite (.cmp (.call "_law_told" (.cons (.v 6) (.cons (.v 10) .nil))) (.one .ne (.cmp (.v 10) (.one .in_ (.v 8))))) [.ret (.bl false)] []], .ret (.bl true)]
def N_law : List Str := ["_law_script", "_law_d", "_law_n", "_law_tree_here", "_law_raised", "_law_things_here", "_law_told_here", "_law_k", "_law_left", "_law_order_here", "_law_named", "_law_thing"]
def g : G := ⟨[], [(("is_size" : Str), (1 : Nat)), (("is_set" : Str), (2 : Nat)), (("check_set" : Str), (2 : Nat)), (("is_thing" : Str), (1 : Nat)), (("listed" : Str), (1 : Nat)), (("least_thing" : Str), (1 : Nat)), (("has_form" : Str), (1 : Nat)), (("check_tree" : Str), (2 : Nat)), (("need_tree" : Str), (1 : Nat)), (("things_of" : Str), (1 : Nat)), (("make_any" : Str), (1 : Nat)), (("make_row" : Str), (1 : Nat)), (("normalized" : Str), (1 : Nat)), (("normal" : Str), (1 : Nat)), (("pruned_within" : Str), (2 : Nat)), (("pruned" : Str), (2 : Nat)), (("_law_cell" : Str), (2 : Nat)), (("_law_digits" : Str), (2 : Nat)), (("_law_rich" : Str), (1 : Nat)), (("_law_order" : Str), (2 : Nat)), (("_law_set" : Str), (2 : Nat)), (("_law_things" : Str), (1 : Nat)), (("_law_told" : Str), (2 : Nat)), (("_law_tree" : Str), (2 : Nat)), (("_law_shuffled" : Str), (2 : Nat)), (("_law_is_normal" : Str), (1 : Nat)), (("_law_orders" : Str), (1 : Nat)), (("_law_drawn_order" : Str), (2 : Nat)), (("law" : Str), (1 : Nat))], [("MOST_THINGS", 24)], [("WORDS", [.str "any", .str "row"])], ["UnpartedError", "InvalidTable", "InvalidTree", "OutOfRange"], false⟩
def tab : List (Str × Fn) := [(("is_size" : Str), (⟨1, 1, ir_is_size⟩ : Fn)), (("is_set" : Str), (⟨2, 3, ir_is_set⟩ : Fn)), (("check_set" : Str), (⟨2, 2, ir_check_set⟩ : Fn)), (("is_thing" : Str), (⟨1, 1, ir_is_thing⟩ : Fn)), (("listed" : Str), (⟨1, 3, ir_listed⟩ : Fn)), (("least_thing" : Str), (⟨1, 1, ir_least_thing⟩ : Fn)), (("has_form" : Str), (⟨1, 2, ir_has_form⟩ : Fn)), (("check_tree" : Str), (⟨2, 2, ir_check_tree⟩ : Fn)), (("need_tree" : Str), (⟨1, 1, ir_need_tree⟩ : Fn)), (("things_of" : Str), (⟨1, 2, ir_things_of⟩ : Fn)), (("make_any" : Str), (⟨1, 1, ir_make_any⟩ : Fn)), (("make_row" : Str), (⟨1, 1, ir_make_row⟩ : Fn)), (("normalized" : Str), (⟨1, 6, ir_normalized⟩ : Fn)), (("normal" : Str), (⟨1, 1, ir_normal⟩ : Fn)), (("pruned_within" : Str), (⟨2, 5, ir_pruned_within⟩ : Fn)), (("pruned" : Str), (⟨2, 2, ir_pruned⟩ : Fn)), (("_law_cell" : Str), (⟨2, 2, ir__law_cell⟩ : Fn)), (("_law_digits" : Str), (⟨2, 4, ir__law_digits⟩ : Fn)), (("_law_rich" : Str), (⟨1, 3, ir__law_rich⟩ : Fn)), (("_law_order" : Str), (⟨2, 7, ir__law_order⟩ : Fn)), (("_law_set" : Str), (⟨2, 4, ir__law_set⟩ : Fn)), (("_law_things" : Str), (⟨1, 3, ir__law_things⟩ : Fn)), (("_law_told" : Str), (⟨2, 7, ir__law_told⟩ : Fn)), (("_law_tree" : Str), (⟨2, 9, ir__law_tree⟩ : Fn)), (("_law_shuffled" : Str), (⟨2, 6, ir__law_shuffled⟩ : Fn)), (("_law_is_normal" : Str), (⟨1, 3, ir__law_is_normal⟩ : Fn)), (("_law_orders" : Str), (⟨1, 6, ir__law_orders⟩ : Fn)), (("_law_drawn_order" : Str), (⟨2, 4, ir__law_drawn_order⟩ : Fn)), (("law" : Str), (⟨1, 12, ir_law⟩ : Fn))]
def T : Str → Option Fn := fun f => tab.lookup f
abbrev prog : Program := PySem.Challenge.pw_unpartedrows_k25_whole_pruned_trees
def top (i : Nat) : Stmt := prog.main.body.getD i (.Pass ⟨0, 0, 0, 0⟩)
abbrev s_is_size : Stmt := top 7
abbrev s_is_set : Stmt := top 8
abbrev s_check_set : Stmt := top 9
abbrev s_is_thing : Stmt := top 12
abbrev s_listed : Stmt := top 13
abbrev s_least_thing : Stmt := top 14
abbrev s_has_form : Stmt := top 15
abbrev s_check_tree : Stmt := top 16
abbrev s_need_tree : Stmt := top 17
abbrev s_things_of : Stmt := top 18
abbrev s_make_any : Stmt := top 19
abbrev s_make_row : Stmt := top 20
abbrev s_normalized : Stmt := top 21
abbrev s_normal : Stmt := top 22
abbrev s_pruned_within : Stmt := top 24
abbrev s_pruned : Stmt := top 25
abbrev s__law_cell : Stmt := top 27
abbrev s__law_digits : Stmt := top 28
abbrev s__law_rich : Stmt := top 29
abbrev s__law_order : Stmt := top 30
abbrev s__law_set : Stmt := top 31
abbrev s__law_things : Stmt := top 32
abbrev s__law_told : Stmt := top 33
abbrev s__law_tree : Stmt := top 34
abbrev s__law_shuffled : Stmt := top 35
abbrev s__law_is_normal : Stmt := top 36
abbrev s__law_orders : Stmt := top 37
abbrev s__law_drawn_order : Stmt := top 38
abbrev s_law : Stmt := top 39
def d_is_size : He.DefD := ⟨("is_size", none), "is_size", "is_size", defArgs s_is_size, defBody s_is_size, defScope s_is_size, [], []⟩
def d_is_set : He.DefD := ⟨("is_set", none), "is_set", "is_set", defArgs s_is_set, defBody s_is_set, defScope s_is_set, [], []⟩
def d_check_set : He.DefD := ⟨("check_set", none), "check_set", "check_set", defArgs s_check_set, defBody s_check_set, defScope s_check_set, [], []⟩
def d_is_thing : He.DefD := ⟨("is_thing", none), "is_thing", "is_thing", defArgs s_is_thing, defBody s_is_thing, defScope s_is_thing, [], []⟩
def d_listed : He.DefD := ⟨("listed", none), "listed", "listed", defArgs s_listed, defBody s_listed, defScope s_listed, [], []⟩
def d_least_thing : He.DefD := ⟨("least_thing", none), "least_thing", "least_thing", defArgs s_least_thing, defBody s_least_thing, defScope s_least_thing, [], []⟩
def d_has_form : He.DefD := ⟨("has_form", none), "has_form", "has_form", defArgs s_has_form, defBody s_has_form, defScope s_has_form, [], []⟩
def d_check_tree : He.DefD := ⟨("check_tree", none), "check_tree", "check_tree", defArgs s_check_tree, defBody s_check_tree, defScope s_check_tree, [], []⟩
def d_need_tree : He.DefD := ⟨("need_tree", none), "need_tree", "need_tree", defArgs s_need_tree, defBody s_need_tree, defScope s_need_tree, [], []⟩
def d_things_of : He.DefD := ⟨("things_of", none), "things_of", "things_of", defArgs s_things_of, defBody s_things_of, defScope s_things_of, [], []⟩
def d_make_any : He.DefD := ⟨("make_any", none), "make_any", "make_any", defArgs s_make_any, defBody s_make_any, defScope s_make_any, [], []⟩
def d_make_row : He.DefD := ⟨("make_row", none), "make_row", "make_row", defArgs s_make_row, defBody s_make_row, defScope s_make_row, [], []⟩
def d_normalized : He.DefD := ⟨("normalized", none), "normalized", "normalized", defArgs s_normalized, defBody s_normalized, defScope s_normalized, [], []⟩
def d_normal : He.DefD := ⟨("normal", none), "normal", "normal", defArgs s_normal, defBody s_normal, defScope s_normal, [], []⟩
def d_pruned_within : He.DefD := ⟨("pruned_within", none), "pruned_within", "pruned_within", defArgs s_pruned_within, defBody s_pruned_within, defScope s_pruned_within, [], []⟩
def d_pruned : He.DefD := ⟨("pruned", none), "pruned", "pruned", defArgs s_pruned, defBody s_pruned, defScope s_pruned, [], []⟩
def d__law_cell : He.DefD := ⟨("_law_cell", none), "_law_cell", "_law_cell", defArgs s__law_cell, defBody s__law_cell, defScope s__law_cell, [], []⟩
def d__law_digits : He.DefD := ⟨("_law_digits", none), "_law_digits", "_law_digits", defArgs s__law_digits, defBody s__law_digits, defScope s__law_digits, [], []⟩
def d__law_rich : He.DefD := ⟨("_law_rich", none), "_law_rich", "_law_rich", defArgs s__law_rich, defBody s__law_rich, defScope s__law_rich, [], []⟩
def d__law_order : He.DefD := ⟨("_law_order", none), "_law_order", "_law_order", defArgs s__law_order, defBody s__law_order, defScope s__law_order, [], []⟩
def d__law_set : He.DefD := ⟨("_law_set", none), "_law_set", "_law_set", defArgs s__law_set, defBody s__law_set, defScope s__law_set, [], []⟩
def d__law_things : He.DefD := ⟨("_law_things", none), "_law_things", "_law_things", defArgs s__law_things, defBody s__law_things, defScope s__law_things, [], []⟩
def d__law_told : He.DefD := ⟨("_law_told", none), "_law_told", "_law_told", defArgs s__law_told, defBody s__law_told, defScope s__law_told, [], []⟩
def d__law_tree : He.DefD := ⟨("_law_tree", none), "_law_tree", "_law_tree", defArgs s__law_tree, defBody s__law_tree, defScope s__law_tree, [], []⟩
def d__law_shuffled : He.DefD := ⟨("_law_shuffled", none), "_law_shuffled", "_law_shuffled", defArgs s__law_shuffled, defBody s__law_shuffled, defScope s__law_shuffled, [], []⟩
def d__law_is_normal : He.DefD := ⟨("_law_is_normal", none), "_law_is_normal", "_law_is_normal", defArgs s__law_is_normal, defBody s__law_is_normal, defScope s__law_is_normal, [], []⟩
def d__law_orders : He.DefD := ⟨("_law_orders", none), "_law_orders", "_law_orders", defArgs s__law_orders, defBody s__law_orders, defScope s__law_orders, [], []⟩
def d__law_drawn_order : He.DefD := ⟨("_law_drawn_order", none), "_law_drawn_order", "_law_drawn_order", defArgs s__law_drawn_order, defBody s__law_drawn_order, defScope s__law_drawn_order, [], []⟩
def d_law : He.DefD := ⟨("law", none), "law", "law", defArgs s_law, defBody s_law, defScope s_law, [], []⟩
def fn : List He.DefD := [d_is_size, d_is_set, d_check_set, d_is_thing, d_listed, d_least_thing, d_has_form, d_check_tree, d_need_tree, d_things_of, d_make_any, d_make_row, d_normalized, d_normal, d_pruned_within, d_pruned, d__law_cell, d__law_digits, d__law_rich, d__law_order, d__law_set, d__law_things, d__law_told, d__law_tree, d__law_shuffled, d__law_is_normal, d__law_orders, d__law_drawn_order, d_law]
abbrev RwR : PySem.W.OpenRow := PySem.W.OpenLaw.row PySem.Challenge.rw_unpartedrows_k25_whole_pruned_trees
abbrev hk : PySem.W.Hook := hookX 4 (chkG g) fn
def ob (s : PySem.W.SharedT) : He.AlD := obsXG 4 (chkG g) fn (HandSHeadRun.getT s)
theorem ob_eq (s : PySem.W.SharedT) : ob s = hk.obs s.abs := obsXG_eq (HandSHeadRun.getT_eq s)
def names0 : List PySem.Str := ["UnpartedError", "InvalidTable", "InvalidTree", "OutOfRange", "MOST_THINGS", "is_size", "is_set", "check_set", "WORDS", "is_thing", "listed", "least_thing", "has_form", "check_tree", "need_tree", "things_of", "make_any", "make_row", "normalized", "normal", "pruned_within", "pruned", "_law_cell", "_law_digits", "_law_rich", "_law_order", "_law_set", "_law_things", "_law_told", "_law_tree"]
def names1 : List PySem.Str := ["_law_shuffled", "_law_is_normal", "_law_orders", "_law_drawn_order"]
def names : List PySem.Str := names0 ++ names1
theorem run (w : World) : HandSHeadRun.RunEq RwR (PySem.W.view RwR.prog [39]) hk ob 4000 names w := by
  intro os
  kernel_rfl
theorem c_is_size : cSs { g with N := N_is_size } 60 true (defScope s_is_size) (defBody s_is_size) = some ir_is_size := by kernel_rfl
theorem sc_is_size : FnScope N_is_size ["n"] (defScope s_is_size) := ⟨rfl, rfl, rfl, by decide +kernel, rfl, by decide +kernel, by decide +kernel⟩
theorem ok_is_size (K : PySem.W.Frag) (mg : Str → Option Value) (says : SaysX (chkG g) fn K) (hg : mg "is_size" = some (.ref (He.ga K "is_size"))) : DefOk g K mg T "is_size" 1 := by
  obtain ⟨fd, F⟩ := says.def_ 0 (d := d_is_size) rfl
  exact ⟨_, fd, ["n"], N_is_size, _, _, _, _, _, 60, ir_is_size, hg, F, FunD.bindsA (ps := ["n"]) F fun _ _ _ _ _ _ us hl => match us, hl with | [_], _ => rfl, sc_is_size, rfl, c_is_size, by kernel_rfl⟩
theorem c_is_set : cSs { g with N := N_is_set } 60 true (defScope s_is_set) (defBody s_is_set) = some ir_is_set := by kernel_rfl
theorem sc_is_set : FnScope N_is_set ["n", "chosen"] (defScope s_is_set) := ⟨rfl, rfl, rfl, by decide +kernel, rfl, by decide +kernel, by decide +kernel⟩
theorem ok_is_set (K : PySem.W.Frag) (mg : Str → Option Value) (says : SaysX (chkG g) fn K) (hg : mg "is_set" = some (.ref (He.ga K "is_set"))) : DefOk g K mg T "is_set" 2 := by
  obtain ⟨fd, F⟩ := says.def_ 1 (d := d_is_set) rfl
  exact ⟨_, fd, ["n", "chosen"], N_is_set, _, _, _, _, _, 60, ir_is_set, hg, F, FunD.bindsA (ps := ["n", "chosen"]) F fun _ _ _ _ _ _ us hl => match us, hl with | [_, _], _ => rfl, sc_is_set, rfl, c_is_set, by kernel_rfl⟩
theorem c_check_set : cSs { g with N := N_check_set } 60 true (defScope s_check_set) (defBody s_check_set) = some ir_check_set := by kernel_rfl
theorem sc_check_set : FnScope N_check_set ["n", "chosen"] (defScope s_check_set) := ⟨rfl, rfl, rfl, by decide +kernel, rfl, by decide +kernel, by decide +kernel⟩
theorem ok_check_set (K : PySem.W.Frag) (mg : Str → Option Value) (says : SaysX (chkG g) fn K) (hg : mg "check_set" = some (.ref (He.ga K "check_set"))) : DefOk g K mg T "check_set" 2 := by
  obtain ⟨fd, F⟩ := says.def_ 2 (d := d_check_set) rfl
  exact ⟨_, fd, ["n", "chosen"], N_check_set, _, _, _, _, _, 60, ir_check_set, hg, F, FunD.bindsA (ps := ["n", "chosen"]) F fun _ _ _ _ _ _ us hl => match us, hl with | [_, _], _ => rfl, sc_check_set, rfl, c_check_set, by kernel_rfl⟩
theorem c_is_thing : cSs { g with N := N_is_thing } 60 true (defScope s_is_thing) (defBody s_is_thing) = some ir_is_thing := by kernel_rfl
theorem sc_is_thing : FnScope N_is_thing ["tree"] (defScope s_is_thing) := ⟨rfl, rfl, rfl, by decide +kernel, rfl, by decide +kernel, by decide +kernel⟩
theorem ok_is_thing (K : PySem.W.Frag) (mg : Str → Option Value) (says : SaysX (chkG g) fn K) (hg : mg "is_thing" = some (.ref (He.ga K "is_thing"))) : DefOk g K mg T "is_thing" 1 := by
  obtain ⟨fd, F⟩ := says.def_ 3 (d := d_is_thing) rfl
  exact ⟨_, fd, ["tree"], N_is_thing, _, _, _, _, _, 60, ir_is_thing, hg, F, FunD.bindsA (ps := ["tree"]) F fun _ _ _ _ _ _ us hl => match us, hl with | [_], _ => rfl, sc_is_thing, rfl, c_is_thing, by kernel_rfl⟩
theorem c_listed : cSs { g with N := N_listed } 60 true (defScope s_listed) (defBody s_listed) = some ir_listed := by kernel_rfl
theorem sc_listed : FnScope N_listed ["tree"] (defScope s_listed) := ⟨rfl, rfl, rfl, by decide +kernel, rfl, by decide +kernel, by decide +kernel⟩
theorem ok_listed (K : PySem.W.Frag) (mg : Str → Option Value) (says : SaysX (chkG g) fn K) (hg : mg "listed" = some (.ref (He.ga K "listed"))) : DefOk g K mg T "listed" 1 := by
  obtain ⟨fd, F⟩ := says.def_ 4 (d := d_listed) rfl
  exact ⟨_, fd, ["tree"], N_listed, _, _, _, _, _, 60, ir_listed, hg, F, FunD.bindsA (ps := ["tree"]) F fun _ _ _ _ _ _ us hl => match us, hl with | [_], _ => rfl, sc_listed, rfl, c_listed, by kernel_rfl⟩
theorem c_least_thing : cSs { g with N := N_least_thing } 60 true (defScope s_least_thing) (defBody s_least_thing) = some ir_least_thing := by kernel_rfl
theorem sc_least_thing : FnScope N_least_thing ["tree"] (defScope s_least_thing) := ⟨rfl, rfl, rfl, by decide +kernel, rfl, by decide +kernel, by decide +kernel⟩
theorem ok_least_thing (K : PySem.W.Frag) (mg : Str → Option Value) (says : SaysX (chkG g) fn K) (hg : mg "least_thing" = some (.ref (He.ga K "least_thing"))) : DefOk g K mg T "least_thing" 1 := by
  obtain ⟨fd, F⟩ := says.def_ 5 (d := d_least_thing) rfl
  exact ⟨_, fd, ["tree"], N_least_thing, _, _, _, _, _, 60, ir_least_thing, hg, F, FunD.bindsA (ps := ["tree"]) F fun _ _ _ _ _ _ us hl => match us, hl with | [_], _ => rfl, sc_least_thing, rfl, c_least_thing, by kernel_rfl⟩
theorem c_has_form : cSs { g with N := N_has_form } 60 true (defScope s_has_form) (defBody s_has_form) = some ir_has_form := by kernel_rfl
theorem sc_has_form : FnScope N_has_form ["tree"] (defScope s_has_form) := ⟨rfl, rfl, rfl, by decide +kernel, rfl, by decide +kernel, by decide +kernel⟩
theorem ok_has_form (K : PySem.W.Frag) (mg : Str → Option Value) (says : SaysX (chkG g) fn K) (hg : mg "has_form" = some (.ref (He.ga K "has_form"))) : DefOk g K mg T "has_form" 1 := by
  obtain ⟨fd, F⟩ := says.def_ 6 (d := d_has_form) rfl
  exact ⟨_, fd, ["tree"], N_has_form, _, _, _, _, _, 60, ir_has_form, hg, F, FunD.bindsA (ps := ["tree"]) F fun _ _ _ _ _ _ us hl => match us, hl with | [_], _ => rfl, sc_has_form, rfl, c_has_form, by kernel_rfl⟩
theorem c_check_tree : cSs { g with N := N_check_tree } 60 true (defScope s_check_tree) (defBody s_check_tree) = some ir_check_tree := by kernel_rfl
theorem sc_check_tree : FnScope N_check_tree ["n", "tree"] (defScope s_check_tree) := ⟨rfl, rfl, rfl, by decide +kernel, rfl, by decide +kernel, by decide +kernel⟩
theorem ok_check_tree (K : PySem.W.Frag) (mg : Str → Option Value) (says : SaysX (chkG g) fn K) (hg : mg "check_tree" = some (.ref (He.ga K "check_tree"))) : DefOk g K mg T "check_tree" 2 := by
  obtain ⟨fd, F⟩ := says.def_ 7 (d := d_check_tree) rfl
  exact ⟨_, fd, ["n", "tree"], N_check_tree, _, _, _, _, _, 60, ir_check_tree, hg, F, FunD.bindsA (ps := ["n", "tree"]) F fun _ _ _ _ _ _ us hl => match us, hl with | [_, _], _ => rfl, sc_check_tree, rfl, c_check_tree, by kernel_rfl⟩
theorem c_need_tree : cSs { g with N := N_need_tree } 60 true (defScope s_need_tree) (defBody s_need_tree) = some ir_need_tree := by kernel_rfl
theorem sc_need_tree : FnScope N_need_tree ["tree"] (defScope s_need_tree) := ⟨rfl, rfl, rfl, by decide +kernel, rfl, by decide +kernel, by decide +kernel⟩
theorem ok_need_tree (K : PySem.W.Frag) (mg : Str → Option Value) (says : SaysX (chkG g) fn K) (hg : mg "need_tree" = some (.ref (He.ga K "need_tree"))) : DefOk g K mg T "need_tree" 1 := by
  obtain ⟨fd, F⟩ := says.def_ 8 (d := d_need_tree) rfl
  exact ⟨_, fd, ["tree"], N_need_tree, _, _, _, _, _, 60, ir_need_tree, hg, F, FunD.bindsA (ps := ["tree"]) F fun _ _ _ _ _ _ us hl => match us, hl with | [_], _ => rfl, sc_need_tree, rfl, c_need_tree, by kernel_rfl⟩
theorem c_things_of : cSs { g with N := N_things_of } 60 true (defScope s_things_of) (defBody s_things_of) = some ir_things_of := by kernel_rfl
theorem sc_things_of : FnScope N_things_of ["tree"] (defScope s_things_of) := ⟨rfl, rfl, rfl, by decide +kernel, rfl, by decide +kernel, by decide +kernel⟩
theorem ok_things_of (K : PySem.W.Frag) (mg : Str → Option Value) (says : SaysX (chkG g) fn K) (hg : mg "things_of" = some (.ref (He.ga K "things_of"))) : DefOk g K mg T "things_of" 1 := by
  obtain ⟨fd, F⟩ := says.def_ 9 (d := d_things_of) rfl
  exact ⟨_, fd, ["tree"], N_things_of, _, _, _, _, _, 60, ir_things_of, hg, F, FunD.bindsA (ps := ["tree"]) F fun _ _ _ _ _ _ us hl => match us, hl with | [_], _ => rfl, sc_things_of, rfl, c_things_of, by kernel_rfl⟩
theorem c_make_any : cSs { g with N := N_make_any } 60 true (defScope s_make_any) (defBody s_make_any) = some ir_make_any := by kernel_rfl
theorem sc_make_any : FnScope N_make_any ["parts"] (defScope s_make_any) := ⟨rfl, rfl, rfl, by decide +kernel, rfl, by decide +kernel, by decide +kernel⟩
theorem ok_make_any (K : PySem.W.Frag) (mg : Str → Option Value) (says : SaysX (chkG g) fn K) (hg : mg "make_any" = some (.ref (He.ga K "make_any"))) : DefOk g K mg T "make_any" 1 := by
  obtain ⟨fd, F⟩ := says.def_ 10 (d := d_make_any) rfl
  exact ⟨_, fd, ["parts"], N_make_any, _, _, _, _, _, 60, ir_make_any, hg, F, FunD.bindsA (ps := ["parts"]) F fun _ _ _ _ _ _ us hl => match us, hl with | [_], _ => rfl, sc_make_any, rfl, c_make_any, by kernel_rfl⟩
theorem c_make_row : cSs { g with N := N_make_row } 60 true (defScope s_make_row) (defBody s_make_row) = some ir_make_row := by kernel_rfl
theorem sc_make_row : FnScope N_make_row ["parts"] (defScope s_make_row) := ⟨rfl, rfl, rfl, by decide +kernel, rfl, by decide +kernel, by decide +kernel⟩
theorem ok_make_row (K : PySem.W.Frag) (mg : Str → Option Value) (says : SaysX (chkG g) fn K) (hg : mg "make_row" = some (.ref (He.ga K "make_row"))) : DefOk g K mg T "make_row" 1 := by
  obtain ⟨fd, F⟩ := says.def_ 11 (d := d_make_row) rfl
  exact ⟨_, fd, ["parts"], N_make_row, _, _, _, _, _, 60, ir_make_row, hg, F, FunD.bindsA (ps := ["parts"]) F fun _ _ _ _ _ _ us hl => match us, hl with | [_], _ => rfl, sc_make_row, rfl, c_make_row, by kernel_rfl⟩
theorem c_normalized : cSs { g with N := N_normalized } 60 true (defScope s_normalized) (defBody s_normalized) = some ir_normalized := by kernel_rfl
theorem sc_normalized : FnScope N_normalized ["tree"] (defScope s_normalized) := ⟨rfl, rfl, rfl, by decide +kernel, rfl, by decide +kernel, by decide +kernel⟩
theorem ok_normalized (K : PySem.W.Frag) (mg : Str → Option Value) (says : SaysX (chkG g) fn K) (hg : mg "normalized" = some (.ref (He.ga K "normalized"))) : DefOk g K mg T "normalized" 1 := by
  obtain ⟨fd, F⟩ := says.def_ 12 (d := d_normalized) rfl
  exact ⟨_, fd, ["tree"], N_normalized, _, _, _, _, _, 60, ir_normalized, hg, F, FunD.bindsA (ps := ["tree"]) F fun _ _ _ _ _ _ us hl => match us, hl with | [_], _ => rfl, sc_normalized, rfl, c_normalized, by kernel_rfl⟩
theorem c_normal : cSs { g with N := N_normal } 60 true (defScope s_normal) (defBody s_normal) = some ir_normal := by kernel_rfl
theorem sc_normal : FnScope N_normal ["tree"] (defScope s_normal) := ⟨rfl, rfl, rfl, by decide +kernel, rfl, by decide +kernel, by decide +kernel⟩
theorem ok_normal (K : PySem.W.Frag) (mg : Str → Option Value) (says : SaysX (chkG g) fn K) (hg : mg "normal" = some (.ref (He.ga K "normal"))) : DefOk g K mg T "normal" 1 := by
  obtain ⟨fd, F⟩ := says.def_ 13 (d := d_normal) rfl
  exact ⟨_, fd, ["tree"], N_normal, _, _, _, _, _, 60, ir_normal, hg, F, FunD.bindsA (ps := ["tree"]) F fun _ _ _ _ _ _ us hl => match us, hl with | [_], _ => rfl, sc_normal, rfl, c_normal, by kernel_rfl⟩
theorem c_pruned_within : cSs { g with N := N_pruned_within } 60 true (defScope s_pruned_within) (defBody s_pruned_within) = some ir_pruned_within := by kernel_rfl
theorem sc_pruned_within : FnScope N_pruned_within ["tree", "things"] (defScope s_pruned_within) := ⟨rfl, rfl, rfl, by decide +kernel, rfl, by decide +kernel, by decide +kernel⟩
theorem ok_pruned_within (K : PySem.W.Frag) (mg : Str → Option Value) (says : SaysX (chkG g) fn K) (hg : mg "pruned_within" = some (.ref (He.ga K "pruned_within"))) : DefOk g K mg T "pruned_within" 2 := by
  obtain ⟨fd, F⟩ := says.def_ 14 (d := d_pruned_within) rfl
  exact ⟨_, fd, ["tree", "things"], N_pruned_within, _, _, _, _, _, 60, ir_pruned_within, hg, F, FunD.bindsA (ps := ["tree", "things"]) F fun _ _ _ _ _ _ us hl => match us, hl with | [_, _], _ => rfl, sc_pruned_within, rfl, c_pruned_within, by kernel_rfl⟩
theorem c_pruned : cSs { g with N := N_pruned } 60 true (defScope s_pruned) (defBody s_pruned) = some ir_pruned := by kernel_rfl
theorem sc_pruned : FnScope N_pruned ["tree", "things"] (defScope s_pruned) := ⟨rfl, rfl, rfl, by decide +kernel, rfl, by decide +kernel, by decide +kernel⟩
theorem ok_pruned (K : PySem.W.Frag) (mg : Str → Option Value) (says : SaysX (chkG g) fn K) (hg : mg "pruned" = some (.ref (He.ga K "pruned"))) : DefOk g K mg T "pruned" 2 := by
  obtain ⟨fd, F⟩ := says.def_ 15 (d := d_pruned) rfl
  exact ⟨_, fd, ["tree", "things"], N_pruned, _, _, _, _, _, 60, ir_pruned, hg, F, FunD.bindsA (ps := ["tree", "things"]) F fun _ _ _ _ _ _ us hl => match us, hl with | [_, _], _ => rfl, sc_pruned, rfl, c_pruned, by kernel_rfl⟩
theorem c__law_cell : cSs { g with N := N__law_cell } 60 true (defScope s__law_cell) (defBody s__law_cell) = some ir__law_cell := by kernel_rfl
theorem sc__law_cell : FnScope N__law_cell ["_law_script", "_law_k"] (defScope s__law_cell) := ⟨rfl, rfl, rfl, by decide +kernel, rfl, by decide +kernel, by decide +kernel⟩
theorem ok__law_cell (K : PySem.W.Frag) (mg : Str → Option Value) (says : SaysX (chkG g) fn K) (hg : mg "_law_cell" = some (.ref (He.ga K "_law_cell"))) : DefOk g K mg T "_law_cell" 2 := by
  obtain ⟨fd, F⟩ := says.def_ 16 (d := d__law_cell) rfl
  exact ⟨_, fd, ["_law_script", "_law_k"], N__law_cell, _, _, _, _, _, 60, ir__law_cell, hg, F, FunD.bindsA (ps := ["_law_script", "_law_k"]) F fun _ _ _ _ _ _ us hl => match us, hl with | [_, _], _ => rfl, sc__law_cell, rfl, c__law_cell, by kernel_rfl⟩
theorem c__law_digits : cSs { g with N := N__law_digits } 60 true (defScope s__law_digits) (defBody s__law_digits) = some ir__law_digits := by kernel_rfl
theorem sc__law_digits : FnScope N__law_digits ["_law_cell_here", "_law_sizes"] (defScope s__law_digits) := ⟨rfl, rfl, rfl, by decide +kernel, rfl, by decide +kernel, by decide +kernel⟩
theorem ok__law_digits (K : PySem.W.Frag) (mg : Str → Option Value) (says : SaysX (chkG g) fn K) (hg : mg "_law_digits" = some (.ref (He.ga K "_law_digits"))) : DefOk g K mg T "_law_digits" 2 := by
  obtain ⟨fd, F⟩ := says.def_ 17 (d := d__law_digits) rfl
  exact ⟨_, fd, ["_law_cell_here", "_law_sizes"], N__law_digits, _, _, _, _, _, 60, ir__law_digits, hg, F, FunD.bindsA (ps := ["_law_cell_here", "_law_sizes"]) F fun _ _ _ _ _ _ us hl => match us, hl with | [_, _], _ => rfl, sc__law_digits, rfl, c__law_digits, by kernel_rfl⟩
theorem c__law_rich : cSs { g with N := N__law_rich } 60 true (defScope s__law_rich) (defBody s__law_rich) = some ir__law_rich := by kernel_rfl
theorem sc__law_rich : FnScope N__law_rich ["_law_cell_here"] (defScope s__law_rich) := ⟨rfl, rfl, rfl, by decide +kernel, rfl, by decide +kernel, by decide +kernel⟩
theorem ok__law_rich (K : PySem.W.Frag) (mg : Str → Option Value) (says : SaysX (chkG g) fn K) (hg : mg "_law_rich" = some (.ref (He.ga K "_law_rich"))) : DefOk g K mg T "_law_rich" 1 := by
  obtain ⟨fd, F⟩ := says.def_ 18 (d := d__law_rich) rfl
  exact ⟨_, fd, ["_law_cell_here"], N__law_rich, _, _, _, _, _, 60, ir__law_rich, hg, F, FunD.bindsA (ps := ["_law_cell_here"]) F fun _ _ _ _ _ _ us hl => match us, hl with | [_], _ => rfl, sc__law_rich, rfl, c__law_rich, by kernel_rfl⟩
theorem c__law_order : cSs { g with N := N__law_order } 60 true (defScope s__law_order) (defBody s__law_order) = some ir__law_order := by kernel_rfl
theorem sc__law_order : FnScope N__law_order ["_law_cell_here", "_law_n"] (defScope s__law_order) := ⟨rfl, rfl, rfl, by decide +kernel, rfl, by decide +kernel, by decide +kernel⟩
theorem ok__law_order (K : PySem.W.Frag) (mg : Str → Option Value) (says : SaysX (chkG g) fn K) (hg : mg "_law_order" = some (.ref (He.ga K "_law_order"))) : DefOk g K mg T "_law_order" 2 := by
  obtain ⟨fd, F⟩ := says.def_ 19 (d := d__law_order) rfl
  exact ⟨_, fd, ["_law_cell_here", "_law_n"], N__law_order, _, _, _, _, _, 60, ir__law_order, hg, F, FunD.bindsA (ps := ["_law_cell_here", "_law_n"]) F fun _ _ _ _ _ _ us hl => match us, hl with | [_, _], _ => rfl, sc__law_order, rfl, c__law_order, by kernel_rfl⟩
theorem c__law_set : cSs { g with N := N__law_set } 60 true (defScope s__law_set) (defBody s__law_set) = some ir__law_set := by kernel_rfl
theorem sc__law_set : FnScope N__law_set ["_law_cell_here", "_law_n"] (defScope s__law_set) := ⟨rfl, rfl, rfl, by decide +kernel, rfl, by decide +kernel, by decide +kernel⟩
theorem ok__law_set (K : PySem.W.Frag) (mg : Str → Option Value) (says : SaysX (chkG g) fn K) (hg : mg "_law_set" = some (.ref (He.ga K "_law_set"))) : DefOk g K mg T "_law_set" 2 := by
  obtain ⟨fd, F⟩ := says.def_ 20 (d := d__law_set) rfl
  exact ⟨_, fd, ["_law_cell_here", "_law_n"], N__law_set, _, _, _, _, _, 60, ir__law_set, hg, F, FunD.bindsA (ps := ["_law_cell_here", "_law_n"]) F fun _ _ _ _ _ _ us hl => match us, hl with | [_, _], _ => rfl, sc__law_set, rfl, c__law_set, by kernel_rfl⟩
theorem c__law_things : cSs { g with N := N__law_things } 60 true (defScope s__law_things) (defBody s__law_things) = some ir__law_things := by kernel_rfl
theorem sc__law_things : FnScope N__law_things ["_law_tree_here"] (defScope s__law_things) := ⟨rfl, rfl, rfl, by decide +kernel, rfl, by decide +kernel, by decide +kernel⟩
theorem ok__law_things (K : PySem.W.Frag) (mg : Str → Option Value) (says : SaysX (chkG g) fn K) (hg : mg "_law_things" = some (.ref (He.ga K "_law_things"))) : DefOk g K mg T "_law_things" 1 := by
  obtain ⟨fd, F⟩ := says.def_ 21 (d := d__law_things) rfl
  exact ⟨_, fd, ["_law_tree_here"], N__law_things, _, _, _, _, _, 60, ir__law_things, hg, F, FunD.bindsA (ps := ["_law_tree_here"]) F fun _ _ _ _ _ _ us hl => match us, hl with | [_], _ => rfl, sc__law_things, rfl, c__law_things, by kernel_rfl⟩
theorem c__law_told : cSs { g with N := N__law_told } 60 true (defScope s__law_told) (defBody s__law_told) = some ir__law_told := by kernel_rfl
theorem sc__law_told : FnScope N__law_told ["_law_tree_here", "_law_order_here"] (defScope s__law_told) := ⟨rfl, rfl, rfl, by decide +kernel, rfl, by decide +kernel, by decide +kernel⟩
theorem ok__law_told (K : PySem.W.Frag) (mg : Str → Option Value) (says : SaysX (chkG g) fn K) (hg : mg "_law_told" = some (.ref (He.ga K "_law_told"))) : DefOk g K mg T "_law_told" 2 := by
  obtain ⟨fd, F⟩ := says.def_ 22 (d := d__law_told) rfl
  exact ⟨_, fd, ["_law_tree_here", "_law_order_here"], N__law_told, _, _, _, _, _, 60, ir__law_told, hg, F, FunD.bindsA (ps := ["_law_tree_here", "_law_order_here"]) F fun _ _ _ _ _ _ us hl => match us, hl with | [_, _], _ => rfl, sc__law_told, rfl, c__law_told, by kernel_rfl⟩
theorem c__law_tree : cSs { g with N := N__law_tree } 60 true (defScope s__law_tree) (defBody s__law_tree) = some ir__law_tree := by kernel_rfl
theorem sc__law_tree : FnScope N__law_tree ["_law_cell_here", "_law_n"] (defScope s__law_tree) := ⟨rfl, rfl, rfl, by decide +kernel, rfl, by decide +kernel, by decide +kernel⟩
theorem ok__law_tree (K : PySem.W.Frag) (mg : Str → Option Value) (says : SaysX (chkG g) fn K) (hg : mg "_law_tree" = some (.ref (He.ga K "_law_tree"))) : DefOk g K mg T "_law_tree" 2 := by
  obtain ⟨fd, F⟩ := says.def_ 23 (d := d__law_tree) rfl
  exact ⟨_, fd, ["_law_cell_here", "_law_n"], N__law_tree, _, _, _, _, _, 60, ir__law_tree, hg, F, FunD.bindsA (ps := ["_law_cell_here", "_law_n"]) F fun _ _ _ _ _ _ us hl => match us, hl with | [_, _], _ => rfl, sc__law_tree, rfl, c__law_tree, by kernel_rfl⟩
theorem c__law_shuffled : cSs { g with N := N__law_shuffled } 60 true (defScope s__law_shuffled) (defBody s__law_shuffled) = some ir__law_shuffled := by kernel_rfl
theorem sc__law_shuffled : FnScope N__law_shuffled ["_law_tree_here", "_law_cell_here"] (defScope s__law_shuffled) := ⟨rfl, rfl, rfl, by decide +kernel, rfl, by decide +kernel, by decide +kernel⟩
theorem ok__law_shuffled (K : PySem.W.Frag) (mg : Str → Option Value) (says : SaysX (chkG g) fn K) (hg : mg "_law_shuffled" = some (.ref (He.ga K "_law_shuffled"))) : DefOk g K mg T "_law_shuffled" 2 := by
  obtain ⟨fd, F⟩ := says.def_ 24 (d := d__law_shuffled) rfl
  exact ⟨_, fd, ["_law_tree_here", "_law_cell_here"], N__law_shuffled, _, _, _, _, _, 60, ir__law_shuffled, hg, F, FunD.bindsA (ps := ["_law_tree_here", "_law_cell_here"]) F fun _ _ _ _ _ _ us hl => match us, hl with | [_, _], _ => rfl, sc__law_shuffled, rfl, c__law_shuffled, by kernel_rfl⟩
theorem c__law_is_normal : cSs { g with N := N__law_is_normal } 60 true (defScope s__law_is_normal) (defBody s__law_is_normal) = some ir__law_is_normal := by kernel_rfl
theorem sc__law_is_normal : FnScope N__law_is_normal ["_law_tree_here"] (defScope s__law_is_normal) := ⟨rfl, rfl, rfl, by decide +kernel, rfl, by decide +kernel, by decide +kernel⟩
theorem ok__law_is_normal (K : PySem.W.Frag) (mg : Str → Option Value) (says : SaysX (chkG g) fn K) (hg : mg "_law_is_normal" = some (.ref (He.ga K "_law_is_normal"))) : DefOk g K mg T "_law_is_normal" 1 := by
  obtain ⟨fd, F⟩ := says.def_ 25 (d := d__law_is_normal) rfl
  exact ⟨_, fd, ["_law_tree_here"], N__law_is_normal, _, _, _, _, _, 60, ir__law_is_normal, hg, F, FunD.bindsA (ps := ["_law_tree_here"]) F fun _ _ _ _ _ _ us hl => match us, hl with | [_], _ => rfl, sc__law_is_normal, rfl, c__law_is_normal, by kernel_rfl⟩
theorem c__law_orders : cSs { g with N := N__law_orders } 60 true (defScope s__law_orders) (defBody s__law_orders) = some ir__law_orders := by kernel_rfl
theorem sc__law_orders : FnScope N__law_orders ["_law_n"] (defScope s__law_orders) := ⟨rfl, rfl, rfl, by decide +kernel, rfl, by decide +kernel, by decide +kernel⟩
theorem ok__law_orders (K : PySem.W.Frag) (mg : Str → Option Value) (says : SaysX (chkG g) fn K) (hg : mg "_law_orders" = some (.ref (He.ga K "_law_orders"))) : DefOk g K mg T "_law_orders" 1 := by
  obtain ⟨fd, F⟩ := says.def_ 26 (d := d__law_orders) rfl
  exact ⟨_, fd, ["_law_n"], N__law_orders, _, _, _, _, _, 60, ir__law_orders, hg, F, FunD.bindsA (ps := ["_law_n"]) F fun _ _ _ _ _ _ us hl => match us, hl with | [_], _ => rfl, sc__law_orders, rfl, c__law_orders, by kernel_rfl⟩
theorem c__law_drawn_order : cSs { g with N := N__law_drawn_order } 60 true (defScope s__law_drawn_order) (defBody s__law_drawn_order) = some ir__law_drawn_order := by kernel_rfl
theorem sc__law_drawn_order : FnScope N__law_drawn_order ["_law_tree_here", "_law_cell_here"] (defScope s__law_drawn_order) := ⟨rfl, rfl, rfl, by decide +kernel, rfl, by decide +kernel, by decide +kernel⟩
theorem ok__law_drawn_order (K : PySem.W.Frag) (mg : Str → Option Value) (says : SaysX (chkG g) fn K) (hg : mg "_law_drawn_order" = some (.ref (He.ga K "_law_drawn_order"))) : DefOk g K mg T "_law_drawn_order" 2 := by
  obtain ⟨fd, F⟩ := says.def_ 27 (d := d__law_drawn_order) rfl
  exact ⟨_, fd, ["_law_tree_here", "_law_cell_here"], N__law_drawn_order, _, _, _, _, _, 60, ir__law_drawn_order, hg, F, FunD.bindsA (ps := ["_law_tree_here", "_law_cell_here"]) F fun _ _ _ _ _ _ us hl => match us, hl with | [_, _], _ => rfl, sc__law_drawn_order, rfl, c__law_drawn_order, by kernel_rfl⟩
theorem c_law : cSs { g with N := N_law } 60 true (defScope s_law) (defBody s_law) = some ir_law := by kernel_rfl
theorem sc_law : FnScope N_law ["_law_script"] (defScope s_law) := ⟨rfl, rfl, rfl, by decide +kernel, rfl, by decide +kernel, by decide +kernel⟩
theorem ok_law (K : PySem.W.Frag) (mg : Str → Option Value) (says : SaysX (chkG g) fn K) (hg : mg "law" = some (.ref (He.ga K "law"))) : DefOk g K mg T "law" 1 := by
  obtain ⟨fd, F⟩ := says.def_ 28 (d := d_law) rfl
  exact ⟨_, fd, ["_law_script"], N_law, _, _, _, _, _, 60, ir_law, hg, F, FunD.bindsA (ps := ["_law_script"]) F fun _ _ _ _ _ _ us hl => match us, hl with | [_], _ => rfl, sc_law, rfl, c_law, by kernel_rfl⟩
theorem all_ok (K : PySem.W.Frag) (mg : Str → Option Value) (says : SaysX (chkG g) fn K) (hg : ∀ f n, g.fns.lookup f = some n → mg f = some (.ref (He.ga K f))) : ∀ f n, g.fns.lookup f = some n → DefOk g K mg T f n := by
  intro f n h
  have m := lookup_mem h
  have key : ∀ p ∈ g.fns, mg p.1 = some (.ref (He.ga K p.1)) → DefOk g K mg T p.1 p.2 := by
    unfold g
    simp only [List.forall_mem_cons]
    exact ⟨ok_is_size K mg says, ok_is_set K mg says, ok_check_set K mg says, ok_is_thing K mg says, ok_listed K mg says, ok_least_thing K mg says, ok_has_form K mg says, ok_check_tree K mg says, ok_need_tree K mg says, ok_things_of K mg says, ok_make_any K mg says, ok_make_row K mg says, ok_normalized K mg says, ok_normal K mg says, ok_pruned_within K mg says, ok_pruned K mg says, ok__law_cell K mg says, ok__law_digits K mg says, ok__law_rich K mg says, ok__law_order K mg says, ok__law_set K mg says, ok__law_things K mg says, ok__law_told K mg says, ok__law_tree K mg says, ok__law_shuffled K mg says, ok__law_is_normal K mg says, ok__law_orders K mg says, ok__law_drawn_order K mg says, ok_law K mg says, fun p hp => by cases hp⟩
  exact key _ m (hg f n h)
end K25

namespace K25
open PySem PC
def f_law : Nat → (List Int) → R Bool
  | 0, _ => .st
  | k + 1, script => Fl.run (
    letR (((((f_law_cell k script 0)).bind fun t => (f_law_rich k t))).bind fun t1 => (f_law_digits k t1 [9, 2])) fun d =>
    letR (((((((atL d 0)).bind fun t4 => ((((((atL d 0)).bind fun t2 => .ok t2)).bind fun t3 => (tmod t3 5))).bind fun t5 => .ok [t4, t5])).bind fun t6 => ((atL d 1)).bind fun t7 => (atL t6 t7))).bind fun t8 => .ok (1 + t8)) fun n =>
    letR (((f_law_cell k script 1)).bind fun t9 => (f_law_tree k t9 n)) fun tree_here =>
    letR (.ok false) fun raised =>
    Fl.seq (tryF (letR (f_pruned k tree_here ([] : (List Int))) fun _ =>
      .nx (raised)) ["UnpartedError", "InvalidTable", "InvalidTree", "OutOfRange"] "OutOfRange" fun ex =>
      (letR (.ok true) fun raised1 =>
      .nx (raised1))) fun (s : Bool) =>
    cnd (if (!s) then .ok true else (((((((((rng 0 n)).bind fun t10 => .ok t10)).bind fun t11 => .ok t11)).bind fun t12 => (f_pruned k tree_here t12))).bind fun t13 => ((f_normal k tree_here)).bind fun t14 => (neTrB t13 t14)))
      (letR (.ok false) fun v => .rt v)
      (letR (((f_law_cell k script 2)).bind fun t15 => (f_law_set k t15 n)) fun things_here =>
    Fl.seq (cnd (.ok (decide (things_here = ([] : (List Int)))))
      (letR (((((((((f_law_cell k script 2)).bind fun t19 => (f_law_rich k t19))).bind fun t20 => .ok t20)).bind fun t21 => (tmod t21 n))).bind fun t22 => .ok [t22]) fun things_here1 =>
      .nx (things_here1))
      (.nx (things_here))) fun (s1 : (List Int)) =>
    letR (f_pruned k tree_here s1) fun told_here =>
    cnd (((((f_law_is_normal k told_here)).bind fun t23 => .ok (!t23))).bind fun t26 => (if t26 then .ok true else (((((f_law_things k told_here)).bind fun t24 => .ok (isort t24))).bind fun t25 => .ok (!decide (t25 = s1)))))
      (letR (.ok false) fun v => .rt v)
      (Fl.seq (letR (rng 0 6) fun l2 => forL l2 () fun k_ (s3 : Unit) =>
      letR (((((((f_law_cell k script 3)).bind fun t27 => .ok (t27 + k_))).bind fun t28 => (f_law_rich k t28))).bind fun t29 => (f_law_drawn_order k tree_here t29)) fun order_here =>
      cnd (((f_law_told k told_here ((order_here).filter fun thing1 => (memB thing1 s1)))).bind fun t30 => .ok (!t30))
        (letR (.ok false) fun v => .rt v)
        (.nx ())) fun (s3 : Unit) =>
    cnd (.ok (decide (5 < n)))
      (letR (.ok true) fun v => .rt v)
      (letR (.ok ([] : (List (List Int)))) fun left =>
    Fl.seq (letR (((f_law_orders k n)).bind fun t31 => .ok t31) fun l1 => forL l1 (left) fun order_here1 (s5 : (List (List Int))) =>
      Fl.seq (cnd (f_law_told k tree_here order_here1)
        (letR (.ok ((order_here1).filter fun thing2 => (memB thing2 s1))) fun t32 => appL s5 t32 fun left1 =>
        .nx (left1))
        (.nx (s5))) fun (s6 : (List (List Int))) =>
      .nx (s6)) fun (s5 : (List (List Int))) =>
    Fl.seq (letR (((f_law_orders k ((s1).length : Int))).bind fun t33 => .ok t33) fun l => forL l () fun order_here2 (s8 : Unit) =>
      letR (((mapR (fun k_1 => (atL s1 k_1)) order_here2)).bind fun t34 => .ok t34) fun named =>
      cnd (((f_law_told k told_here named)).bind fun t35 => .ok (!decide (t35 = (memB named s5))))
        (letR (.ok false) fun v => .rt v)
        (.nx ())) fun (s8 : Unit) =>
    letR (.ok true) fun v => .rt v)))) .st


theorem sm_is_size : ∀ (k : Nat) (n : Int), Rf eB (callP K25.T 1000 k "is_size" [eI n]) (f_is_size k n)
  | 0, _ => trivial
  | k + 1, n => by
    rw [f_is_size]
    refine fn_sim (fn := ⟨1, 1, K25.ir_is_size⟩) (by rfl) (by rfl) trivial ?_
    change Sim _ _ _ (evSs (callP K25.T 1000 k) 1000 K25.ir_is_size [.f (eI n)]) _
    unfold K25.ir_is_size
    exact Sim.ret (Rf.to (by first | rfl | (simp only [R.assoc, bind_ok, bind_id, bind_id2]; done) | (simp only [R.assoc, bind_ok, bind_id, bind_id2]; rfl)) (x_cmp (x_int (i := 1)) (fun x => c_morep (x_v (e := eI) (a := n) (by rfl)) (fun y => m_le x y) (fun x => c_one (x_int (i := 24)) (fun y => m_le x y))))) trivial

theorem sm_is_set : ∀ (k : Nat) (n : Int) (chosen : (List Int)), Rf eB (callP K25.T 1000 k "is_set" [eI n, (eT eI) chosen]) (f_is_set k n chosen)
  | 0, _, _ => trivial
  | k + 1, n, chosen => by
    rw [f_is_set]
    refine fn_sim (fn := ⟨2, 3, K25.ir_is_set⟩) (by rfl) (by rfl) trivial ?_
    change Sim _ _ _ (evSs (callP K25.T 1000 k) 1000 K25.ir_is_set [.f (eI n), .f ((eT eI) chosen), .u]) _
    unfold K25.ir_is_set
    refine Sim.for (mkL := fun (s1 : Unit) (j1 : Sl) => [.f (eI n), .f ((eT eI) chosen), j1]) (env1 := fun at_ s1 j1 => [.f (eI n), .f ((eT eI) chosen), .f (eI at_)]) (s0 := ()) (j0 := (.u)) (e := eI) (Rf.to (by first | rfl | (simp only [R.assoc, bind_ok, bind_id, bind_id2]; done) | (simp only [R.assoc, bind_ok, bind_id, bind_id2]; rfl)) (n_r1 (x_bi1 (x_v (e := (eT eI)) (a := chosen) (by rfl)) (b_lenT (e := eI))))) trivial rfl (fun at_ s1 j1 => by rfl) (fun at_ s1 j1 => ?_) (fun s1 j1 => ?_)
    · refine Sim.ite1 (by rfl) (Rf.to (by first | rfl | (simp only [R.assoc, bind_ok, bind_id, bind_id2]; done) | (simp only [R.assoc, bind_ok, bind_id, bind_id2]; rfl)) (x_not (x_cmp (x_int (i := 0)) (fun x => c_morep (x_ix (x_v (e := (eT eI)) (a := chosen) (by rfl)) (x_v (e := eI) (a := at_) (by rfl)) (i_T (e := eI))) (fun y => m_le x y) (fun x => c_one (x_v (e := eI) (a := n) (by rfl)) (fun y => m_lt x y)))))) trivial ?_ ?_
      · exact Sim.ret (Rf.to (by first | rfl | (simp only [R.assoc, bind_ok, bind_id, bind_id2]; done) | (simp only [R.assoc, bind_ok, bind_id, bind_id2]; rfl)) x_bl) trivial
      refine Sim.ite1 (by rfl) (Rf.to (by first | rfl | (simp only [R.assoc, bind_ok, bind_id, bind_id2]; done) | (simp only [R.assoc, bind_ok, bind_id, bind_id2]; rfl)) (x_and (x_cmp (x_v (e := eI) (a := at_) (by rfl)) (fun x => c_one (x_int (i := 0)) (fun y => m_gt x y))) (x_cmp (x_ix (x_v (e := (eT eI)) (a := chosen) (by rfl)) (x_op (x_v (e := eI) (a := at_) (by rfl)) (x_int (i := 1)) o_sub) (i_T (e := eI))) (fun x => c_one (x_ix (x_v (e := (eT eI)) (a := chosen) (by rfl)) (x_v (e := eI) (a := at_) (by rfl)) (i_T (e := eI))) (fun y => m_ge x y))))) trivial ?_ ?_
      · exact Sim.ret (Rf.to (by first | rfl | (simp only [R.assoc, bind_ok, bind_id, bind_id2]; done) | (simp only [R.assoc, bind_ok, bind_id, bind_id2]; rfl)) x_bl) trivial
      exact Sim.nil (j := (.f (eI at_))) rfl
    exact Sim.ret (Rf.to (by first | rfl | (simp only [R.assoc, bind_ok, bind_id, bind_id2]; done) | (simp only [R.assoc, bind_ok, bind_id, bind_id2]; rfl)) x_bl) trivial

theorem sm_check_set : ∀ (k : Nat) (n : Int) (chosen : (List Int)), Rf (eT eI) (callP K25.T 1000 k "check_set" [eI n, (eT eI) chosen]) (f_check_set k n chosen)
  | 0, _, _ => trivial
  | k + 1, n, chosen => by
    rw [f_check_set]
    refine fn_sim (fn := ⟨2, 2, K25.ir_check_set⟩) (by rfl) (by rfl) trivial ?_
    change Sim _ _ _ (evSs (callP K25.T 1000 k) 1000 K25.ir_check_set [.f (eI n), .f ((eT eI) chosen)]) _
    unfold K25.ir_check_set
    refine Sim.ite1 (by rfl) (Rf.to (by first | rfl | (simp only [R.assoc, bind_ok, bind_id, bind_id2]; done) | (simp only [R.assoc, bind_ok, bind_id, bind_id2]; rfl)) (x_or (x_not (x_call1 (f := "is_size") (x_v (e := eI) (a := n) (by rfl)) (fun a0 => sm_is_size  k a0))) (x_not (x_call2 (f := "is_set") (x_v (e := eI) (a := n) (by rfl)) (x_v (e := (eT eI)) (a := chosen) (by rfl)) (fun a0 a1 => sm_is_set  k a0 a1))))) trivial ?_ ?_
    · exact Sim.raise trivial
    exact Sim.ret (Rf.to (by first | rfl | (simp only [R.assoc, bind_ok, bind_id, bind_id2]; done) | (simp only [R.assoc, bind_ok, bind_id, bind_id2]; rfl)) (x_v (e := (eT eI)) (a := chosen) (by rfl))) trivial

theorem sm_is_thing : ∀ (k : Nat) (tree : Tr), Rf eB (callP K25.T 1000 k "is_thing" [eTr tree]) (f_is_thing k tree)
  | 0, _ => trivial
  | k + 1, tree => by
    rw [f_is_thing]
    refine fn_sim (fn := ⟨1, 1, K25.ir_is_thing⟩) (by rfl) (by rfl) trivial ?_
    change Sim _ _ _ (evSs (callP K25.T 1000 k) 1000 K25.ir_is_thing [.f (eTr tree)]) _
    unfold K25.ir_is_thing
    exact Sim.ret (Rf.to (by first | rfl | (simp only [R.assoc, bind_ok, bind_id, bind_id2]; done) | (simp only [R.assoc, bind_ok, bind_id, bind_id2]; rfl)) (x_bi1 (x_v (e := eTr) (a := tree) (by rfl)) b_isIntT)) trivial

theorem sm_is_thing_1 : ∀ (k : Nat) (tree : (List Tr)), Rf eB (callP K25.T 1000 k "is_thing" [(eT eTr) tree]) (f_is_thing_1 k tree)
  | 0, _ => trivial
  | k + 1, tree => by
    rw [f_is_thing_1]
    refine fn_sim (fn := ⟨1, 1, K25.ir_is_thing⟩) (by rfl) (by rfl) trivial ?_
    change Sim _ _ _ (evSs (callP K25.T 1000 k) 1000 K25.ir_is_thing [.f ((eT eTr) tree)]) _
    unfold K25.ir_is_thing
    exact Sim.ret (Rf.to (by first | rfl | (simp only [R.assoc, bind_ok, bind_id, bind_id2]; done) | (simp only [R.assoc, bind_ok, bind_id, bind_id2]; rfl)) (x_bi1 (x_v (e := (eT eTr)) (a := tree) (by rfl)) b_isIntTt)) trivial

theorem sm_listed : ∀ (k : Nat) (tree : Tr), Rf (eL eI) (callP K25.T 1000 k "listed" [eTr tree]) (f_listed k tree)
  | 0, _ => trivial
  | k + 1, tree => by
    rw [f_listed]
    refine fn_sim (fn := ⟨1, 3, K25.ir_listed⟩) (by rfl) (by rfl) trivial ?_
    change Sim _ _ _ (evSs (callP K25.T 1000 k) 1000 K25.ir_listed [.f (eTr tree), .u, .u]) _
    unfold K25.ir_listed
    refine Sim.ite1 (by rfl) (Rf.to (by first | rfl | (simp only [R.assoc, bind_ok, bind_id, bind_id2]; done) | (simp only [R.assoc, bind_ok, bind_id, bind_id2]; rfl)) (x_call1 (f := "is_thing") (x_v (e := eTr) (a := tree) (by rfl)) (fun a0 => sm_is_thing  k a0))) trivial ?_ ?_
    · exact Sim.ret (Rf.to (by first | rfl | (simp only [R.assoc, bind_ok, bind_id, bind_id2]; done) | (simp only [R.assoc, bind_ok, bind_id, bind_id2]; rfl)) (x_lst (es_cons (x_cop (e' := eI) (x_v (e := eTr) (a := tree) (by rfl)) cp_thing) (es_nil (e := eI))))) trivial
    refine Sim.asgO flI (by rfl) (fun found => [.f (eTr tree), .o ((eL eI) found), .u]) (Rf.to (by first | rfl | (simp only [R.assoc, bind_ok, bind_id, bind_id2]; done) | (simp only [R.assoc, bind_ok, bind_id, bind_id2]; rfl)) (x_lst (es_nil (e := eI)))) trivial (fun found => by rfl) (fun found => ?_)
    refine Sim.for (mkL := fun (s1 : (List Int)) (j1 : Sl) => [.f (eTr tree), .o ((eL eI) s1), j1]) (env1 := fun part s1 j1 => [.f (eTr tree), .o ((eL eI) s1), .f (eTr part)]) (s0 := (found)) (j0 := (.u)) (e := eTr) (Rf.to (by first | rfl | (simp only [R.assoc, bind_ok, bind_id, bind_id2]; done) | (simp only [R.assoc, bind_ok, bind_id, bind_id2]; rfl)) (n_T (x_parts (x_v (e := eTr) (a := tree) (by rfl))))) trivial rfl (fun part s1 j1 => by rfl) (fun part s1 j1 => ?_) (fun s1 j1 => ?_)
    · refine Sim.ext (b := false) flI (fun found1 => [.f (eTr tree), .o ((eL eI) found1), .f (eTr part)]) (Rf.to (by first | rfl | (simp only [R.assoc, bind_ok, bind_id, bind_id2]; done) | (simp only [R.assoc, bind_ok, bind_id, bind_id2]; rfl)) ((x_co (e' := (eSq false eI)) (f := fun a => a) (x_call1 (f := "listed") (x_v (e := eTr) (a := part) (by rfl)) (fun a0 => sm_listed  k a0)) co_SL).to (bind_id _))) trivial (by rfl) (fun found1 => by rfl) (fun found1 => ?_)
      exact Sim.nil (j := (.f (eTr part))) rfl
    exact Sim.ret (Rf.to (by first | rfl | (simp only [R.assoc, bind_ok, bind_id, bind_id2]; done) | (simp only [R.assoc, bind_ok, bind_id, bind_id2]; rfl)) (x_v (e := (eL eI)) (a := s1) (by rfl))) trivial

theorem sm_least_thing : ∀ (k : Nat) (tree : Tr), Rf eI (callP K25.T 1000 k "least_thing" [eTr tree]) (f_least_thing k tree)
  | 0, _ => trivial
  | k + 1, tree => by
    rw [f_least_thing]
    refine fn_sim (fn := ⟨1, 1, K25.ir_least_thing⟩) (by rfl) (by rfl) trivial ?_
    change Sim _ _ _ (evSs (callP K25.T 1000 k) 1000 K25.ir_least_thing [.f (eTr tree)]) _
    unfold K25.ir_least_thing
    exact Sim.ret (Rf.to (by first | rfl | (simp only [R.assoc, bind_ok, bind_id, bind_id2]; done) | (simp only [R.assoc, bind_ok, bind_id, bind_id2]; rfl)) (x_bi1 (x_call1 (f := "listed") (x_v (e := eTr) (a := tree) (by rfl)) (fun a0 => sm_listed  k a0)) b_min1)) trivial

theorem sm_has_form : ∀ (k : Nat) (tree : Tr), Rf eB (callP K25.T 1000 k "has_form" [eTr tree]) (f_has_form k tree)
  | 0, _ => trivial
  | k + 1, tree => by
    rw [f_has_form]
    refine fn_sim (fn := ⟨1, 2, K25.ir_has_form⟩) (by rfl) (by rfl) trivial ?_
    change Sim _ _ _ (evSs (callP K25.T 1000 k) 1000 K25.ir_has_form [.f (eTr tree), .u]) _
    unfold K25.ir_has_form
    refine Sim.ite1 (by rfl) (Rf.to (by first | rfl | (simp only [R.assoc, bind_ok, bind_id, bind_id2]; done) | (simp only [R.assoc, bind_ok, bind_id, bind_id2]; rfl)) (x_call1 (f := "is_thing") (x_v (e := eTr) (a := tree) (by rfl)) (fun a0 => sm_is_thing  k a0))) trivial ?_ ?_
    · exact Sim.ret (Rf.to (by first | rfl | (simp only [R.assoc, bind_ok, bind_id, bind_id2]; done) | (simp only [R.assoc, bind_ok, bind_id, bind_id2]; rfl)) x_bl) trivial
    refine Sim.ite1 (by rfl) (Rf.to (by first | rfl | (simp only [R.assoc, bind_ok, bind_id, bind_id2]; done) | (simp only [R.assoc, bind_ok, bind_id, bind_id2]; rfl)) (x_or (x_cmp (x_bi1 (x_v (e := eTr) (a := tree) (by rfl)) b_lenTr) (fun x => c_one (x_int (i := 2)) (fun y => m_ne q_I (by decide) x y))) (x_or (x_bi1 (x_word (x_v (e := eTr) (a := tree) (by rfl))) b_ninW) (x_or (x_call1 (f := "is_thing") (x_parts (x_v (e := eTr) (a := tree) (by rfl))) (fun a0 => sm_is_thing_1  k a0)) (x_bi1 (x_parts (x_v (e := eTr) (a := tree) (by rfl))) b_isStrTt))))) trivial ?_ ?_
    · exact Sim.ret (Rf.to (by first | rfl | (simp only [R.assoc, bind_ok, bind_id, bind_id2]; done) | (simp only [R.assoc, bind_ok, bind_id, bind_id2]; rfl)) x_bl) trivial
    refine Sim.ite1 (by rfl) (Rf.to (by first | rfl | (simp only [R.assoc, bind_ok, bind_id, bind_id2]; done) | (simp only [R.assoc, bind_ok, bind_id, bind_id2]; rfl)) (x_or (x_cmp (x_bi1 (x_parts (x_v (e := eTr) (a := tree) (by rfl))) (b_lenT (e := eTr))) (fun x => c_one (x_int (i := 2)) (fun y => m_lt x y))) (x_and (x_cmp (x_word (x_v (e := eTr) (a := tree) (by rfl))) (fun x => c_oneV (x_str (i := "row")) (m_eqWr x))) (x_cmp (x_bi1 (x_parts (x_v (e := eTr) (a := tree) (by rfl))) (b_lenT (e := eTr))) (fun x => c_one (x_int (i := 3)) (fun y => m_lt x y)))))) trivial ?_ ?_
    · exact Sim.ret (Rf.to (by first | rfl | (simp only [R.assoc, bind_ok, bind_id, bind_id2]; done) | (simp only [R.assoc, bind_ok, bind_id, bind_id2]; rfl)) x_bl) trivial
    exact Sim.ret (Rf.to (by first | rfl | (simp only [R.assoc, bind_ok, bind_id, bind_id2]; done) | (simp only [R.assoc, bind_ok, bind_id, bind_id2]; rfl)) (x_bi1 (x_lcm (e1 := eTr) (e := eB) (g := fun part => (f_has_form k part)) (fun part => [.f (eTr tree), .f (eTr part)]) (n_T (x_parts (x_v (e := eTr) (a := tree) (by rfl)))) (fun part => by rfl) (fun part => (Rf.to (by first | rfl | (simp only [R.assoc, bind_ok, bind_id, bind_id2]; done) | (simp only [R.assoc, bind_ok, bind_id, bind_id2]; rfl)) (x_call1 (f := "has_form") (x_v (e := eTr) (a := part) (by rfl)) (fun a0 => sm_has_form  k a0))))) b_all)) trivial

theorem sm_check_tree : ∀ (k : Nat) (n : Int) (tree : Tr), Rf eTr (callP K25.T 1000 k "check_tree" [eI n, eTr tree]) (f_check_tree k n tree)
  | 0, _, _ => trivial
  | k + 1, n, tree => by
    rw [f_check_tree]
    refine fn_sim (fn := ⟨2, 2, K25.ir_check_tree⟩) (by rfl) (by rfl) trivial ?_
    change Sim _ _ _ (evSs (callP K25.T 1000 k) 1000 K25.ir_check_tree [.f (eI n), .f (eTr tree)]) _
    unfold K25.ir_check_tree
    refine Sim.ite1 (by rfl) (Rf.to (by first | rfl | (simp only [R.assoc, bind_ok, bind_id, bind_id2]; done) | (simp only [R.assoc, bind_ok, bind_id, bind_id2]; rfl)) (x_or (x_not (x_call1 (f := "is_size") (x_v (e := eI) (a := n) (by rfl)) (fun a0 => sm_is_size  k a0))) (x_or (x_not (x_call1 (f := "has_form") (x_v (e := eTr) (a := tree) (by rfl)) (fun a0 => sm_has_form  k a0))) (x_cmp (x_bi1 (x_call1 (f := "listed") (x_v (e := eTr) (a := tree) (by rfl)) (fun a0 => sm_listed  k a0)) b_sortL) (fun x => c_one (x_bi1 (x_v (e := eI) (a := n) (by rfl)) b_lR1) (fun y => m_ne (q_L q_I) (by decide) x y)))))) trivial ?_ ?_
    · exact Sim.raise trivial
    exact Sim.ret (Rf.to (by first | rfl | (simp only [R.assoc, bind_ok, bind_id, bind_id2]; done) | (simp only [R.assoc, bind_ok, bind_id, bind_id2]; rfl)) (x_v (e := eTr) (a := tree) (by rfl))) trivial

theorem sm_need_tree : ∀ (k : Nat) (tree : Tr), Rf eN (callP K25.T 1000 k "need_tree" [eTr tree]) (f_need_tree k tree)
  | 0, _ => trivial
  | k + 1, tree => by
    rw [f_need_tree]
    refine fn_sim (fn := ⟨1, 1, K25.ir_need_tree⟩) (by rfl) (by rfl) rfl ?_
    change Sim _ _ _ (evSs (callP K25.T 1000 k) 1000 K25.ir_need_tree [.f (eTr tree)]) _
    unfold K25.ir_need_tree
    refine Sim.ite1 (by rfl) (Rf.to (by first | rfl | (simp only [R.assoc, bind_ok, bind_id, bind_id2]; done) | (simp only [R.assoc, bind_ok, bind_id, bind_id2]; rfl)) (x_not (x_call1 (f := "has_form") (x_v (e := eTr) (a := tree) (by rfl)) (fun a0 => sm_has_form  k a0)))) trivial ?_ ?_
    · exact Sim.raise trivial
    refine Sim.exp (enc := eTr) (Rf.to (by first | rfl | (simp only [R.assoc, bind_ok, bind_id, bind_id2]; done) | (simp only [R.assoc, bind_ok, bind_id, bind_id2]; rfl)) (x_call2 (f := "check_tree") (x_bi1 (x_call1 (f := "listed") (x_v (e := eTr) (a := tree) (by rfl)) (fun a0 => sm_listed  k a0)) (b_lenL (e := eI))) (x_v (e := eTr) (a := tree) (by rfl)) (fun a0 a1 => sm_check_tree  k a0 a1))) trivial (fun _ => ?_)
    exact Sim.nil (j := [.f (eTr tree)]) rfl

theorem sm_things_of : ∀ (k : Nat) (tree : Tr), Rf (eT eI) (callP K25.T 1000 k "things_of" [eTr tree]) (f_things_of k tree)
  | 0, _ => trivial
  | k + 1, tree => by
    rw [f_things_of]
    refine fn_sim (fn := ⟨1, 2, K25.ir_things_of⟩) (by rfl) (by rfl) trivial ?_
    change Sim _ _ _ (evSs (callP K25.T 1000 k) 1000 K25.ir_things_of [.f (eTr tree), .u]) _
    unfold K25.ir_things_of
    refine Sim.ite1 (by rfl) (Rf.to (by first | rfl | (simp only [R.assoc, bind_ok, bind_id, bind_id2]; done) | (simp only [R.assoc, bind_ok, bind_id, bind_id2]; rfl)) (x_not (x_call1 (f := "has_form") (x_v (e := eTr) (a := tree) (by rfl)) (fun a0 => sm_has_form  k a0)))) trivial ?_ ?_
    · exact Sim.raise trivial
    refine Sim.asgF (flT flI) (fun found => [.f (eTr tree), .f ((eT eI) found)]) (Rf.to (by first | rfl | (simp only [R.assoc, bind_ok, bind_id, bind_id2]; done) | (simp only [R.assoc, bind_ok, bind_id, bind_id2]; rfl)) (x_bi1 (x_bi1 (x_call1 (f := "listed") (x_v (e := eTr) (a := tree) (by rfl)) (fun a0 => sm_listed  k a0)) b_sortL) (b_tupL (e := eI)))) trivial (fun found => by rfl) (fun found => ?_)
    refine Sim.ite1 (by rfl) (Rf.to (by first | rfl | (simp only [R.assoc, bind_ok, bind_id, bind_id2]; done) | (simp only [R.assoc, bind_ok, bind_id, bind_id2]; rfl)) (x_or (x_cmp (x_ix (x_v (e := (eT eI)) (a := found) (by rfl)) (x_int (i := 0)) (i_T (e := eI))) (fun x => c_one (x_int (i := 0)) (fun y => m_lt x y))) (x_cmp (x_bi1 (x_v (e := (eT eI)) (a := found) (by rfl)) b_lset) (fun x => c_one (x_bi1 (x_v (e := (eT eI)) (a := found) (by rfl)) (b_lenT (e := eI))) (fun y => m_lt x y))))) trivial ?_ ?_
    · exact Sim.raise trivial
    exact Sim.ret (Rf.to (by first | rfl | (simp only [R.assoc, bind_ok, bind_id, bind_id2]; done) | (simp only [R.assoc, bind_ok, bind_id, bind_id2]; rfl)) (x_v (e := (eT eI)) (a := found) (by rfl))) trivial

theorem sm_make_any : ∀ (k : Nat) (parts : (List Tr)), Rf eTr (callP K25.T 1000 k "make_any" [(eL eTr) parts]) (f_make_any k parts)
  | 0, _ => trivial
  | k + 1, parts => by
    rw [f_make_any]
    refine fn_sim (fn := ⟨1, 1, K25.ir_make_any⟩) (by rfl) (by rfl) trivial ?_
    change Sim _ _ _ (evSs (callP K25.T 1000 k) 1000 K25.ir_make_any [.f ((eL eTr) parts)]) _
    unfold K25.ir_make_any
    refine Sim.ite1 (by rfl) (Rf.to (by first | rfl | (simp only [R.assoc, bind_ok, bind_id, bind_id2]; done) | (simp only [R.assoc, bind_ok, bind_id, bind_id2]; rfl)) (x_cmp (x_bi1 (x_v (e := (eL eTr)) (a := parts) (by rfl)) (b_lenL (e := eTr))) (fun x => c_one (x_int (i := 1)) (fun y => m_eq q_I (by decide) x y)))) trivial ?_ ?_
    · exact Sim.ret (Rf.to (by first | rfl | (simp only [R.assoc, bind_ok, bind_id, bind_id2]; done) | (simp only [R.assoc, bind_ok, bind_id, bind_id2]; rfl)) (x_ix (x_v (e := (eL eTr)) (a := parts) (by rfl)) (x_int (i := 0)) (i_L (e := eTr)))) trivial
    exact Sim.ret (Rf.to (by first | rfl | (simp only [R.assoc, bind_ok, bind_id, bind_id2]; done) | (simp only [R.assoc, bind_ok, bind_id, bind_id2]; rfl)) (x_node x_wa (x_bi1 (x_v (e := (eL eTr)) (a := parts) (by rfl)) (b_tupL (e := eTr))))) trivial

theorem sm_make_row : ∀ (k : Nat) (parts : (List Tr)), Rf eTr (callP K25.T 1000 k "make_row" [(eL eTr) parts]) (f_make_row k parts)
  | 0, _ => trivial
  | k + 1, parts => by
    rw [f_make_row]
    refine fn_sim (fn := ⟨1, 1, K25.ir_make_row⟩) (by rfl) (by rfl) trivial ?_
    change Sim _ _ _ (evSs (callP K25.T 1000 k) 1000 K25.ir_make_row [.f ((eL eTr) parts)]) _
    unfold K25.ir_make_row
    refine Sim.ite1 (by rfl) (Rf.to (by first | rfl | (simp only [R.assoc, bind_ok, bind_id, bind_id2]; done) | (simp only [R.assoc, bind_ok, bind_id, bind_id2]; rfl)) (x_cmp (x_bi1 (x_v (e := (eL eTr)) (a := parts) (by rfl)) (b_lenL (e := eTr))) (fun x => c_one (x_int (i := 3)) (fun y => m_lt x y)))) trivial ?_ ?_
    · exact Sim.ret (Rf.to (by first | rfl | (simp only [R.assoc, bind_ok, bind_id, bind_id2]; done) | (simp only [R.assoc, bind_ok, bind_id, bind_id2]; rfl)) (x_call1 (f := "make_any") (x_v (e := (eL eTr)) (a := parts) (by rfl)) (fun a0 => sm_make_any  k a0))) trivial
    exact Sim.ret (Rf.to (by first | rfl | (simp only [R.assoc, bind_ok, bind_id, bind_id2]; done) | (simp only [R.assoc, bind_ok, bind_id, bind_id2]; rfl)) (x_node x_wr (x_bi1 (x_v (e := (eL eTr)) (a := parts) (by rfl)) (b_tupL (e := eTr))))) trivial

theorem sm_normalized : ∀ (k : Nat) (tree : Tr), Rf eTr (callP K25.T 1000 k "normalized" [eTr tree]) (f_normalized k tree)
  | 0, _ => trivial
  | k + 1, tree => by
    rw [f_normalized]
    refine fn_sim (fn := ⟨1, 6, K25.ir_normalized⟩) (by rfl) (by rfl) trivial ?_
    change Sim _ _ _ (evSs (callP K25.T 1000 k) 1000 K25.ir_normalized [.f (eTr tree), .u, .u, .u, .u, .u]) _
    unfold K25.ir_normalized
    refine Sim.ite1 (by rfl) (Rf.to (by first | rfl | (simp only [R.assoc, bind_ok, bind_id, bind_id2]; done) | (simp only [R.assoc, bind_ok, bind_id, bind_id2]; rfl)) (x_call1 (f := "is_thing") (x_v (e := eTr) (a := tree) (by rfl)) (fun a0 => sm_is_thing  k a0))) trivial ?_ ?_
    · exact Sim.ret (Rf.to (by first | rfl | (simp only [R.assoc, bind_ok, bind_id, bind_id2]; done) | (simp only [R.assoc, bind_ok, bind_id, bind_id2]; rfl)) (x_v (e := eTr) (a := tree) (by rfl))) trivial
    refine Sim.asgO flTr (by rfl) (fun parts => [.f (eTr tree), .o ((eL eTr) parts), .u, .u, .u, .u]) (Rf.to (by first | rfl | (simp only [R.assoc, bind_ok, bind_id, bind_id2]; done) | (simp only [R.assoc, bind_ok, bind_id, bind_id2]; rfl)) (x_lcm (e1 := eTr) (e := eTr) (g := fun part => (f_normalized k part)) (fun part => [.f (eTr tree), .u, .u, .f (eTr part), .u, .u]) (n_T (x_parts (x_v (e := eTr) (a := tree) (by rfl)))) (fun part => by rfl) (fun part => (Rf.to (by first | rfl | (simp only [R.assoc, bind_ok, bind_id, bind_id2]; done) | (simp only [R.assoc, bind_ok, bind_id, bind_id2]; rfl)) (x_call1 (f := "normalized") (x_v (e := eTr) (a := part) (by rfl)) (fun a0 => sm_normalized  k a0)))))) trivial (fun parts => by rfl) (fun parts => ?_)
    refine Sim.ite1 (by rfl) (Rf.to (by first | rfl | (simp only [R.assoc, bind_ok, bind_id, bind_id2]; done) | (simp only [R.assoc, bind_ok, bind_id, bind_id2]; rfl)) (x_cmp (x_word (x_v (e := eTr) (a := tree) (by rfl))) (fun x => c_oneV (x_str (i := "any")) (m_eqWa x)))) trivial ?_ ?_
    · refine Sim.asgL (by rfl) (fun order => [.f (eTr tree), .f ((eL eTr) parts), .f ((eL (eP eI eI)) order), .u, .u, .u]) (Rf.to (by first | rfl | (simp only [R.assoc, bind_ok, bind_id, bind_id2]; done) | (simp only [R.assoc, bind_ok, bind_id, bind_id2]; rfl)) (x_bi1 (x_lcm (e1 := (eP eI eTr)) (e := (eP eI eI)) (g := fun p => (((f_least_thing k (p).2)).bind fun t3 => .ok (t3, (p).1))) (fun p => [.f (eTr tree), .o ((eL eTr) parts), .u, .f (eTr (p).2), .f (eI (p).1), .u]) (n_en (x_v (e := (eL eTr)) (a := parts) (by rfl))) (fun p => by rfl) (fun p => (Rf.to (by first | rfl | (simp only [R.assoc, bind_ok, bind_id, bind_id2]; done) | (simp only [R.assoc, bind_ok, bind_id, bind_id2]; rfl)) (x_tup2 (x_call1 (f := "least_thing") (x_v (e := eTr) (a := (p).2) (by rfl)) (fun a0 => sm_least_thing  k a0)) (x_v (e := eI) (a := (p).1) (by rfl)))))) b_sortP)) trivial (fun order => set_frz rfl rfl) (fun order => ?_)
      exact Sim.ret (Rf.to (by first | rfl | (simp only [R.assoc, bind_ok, bind_id, bind_id2]; done) | (simp only [R.assoc, bind_ok, bind_id, bind_id2]; rfl)) (x_node x_wa (x_bi1 (x_lcm (e1 := (eP eI eI)) (e := eTr) (g := fun p1 => (atL parts (p1).2)) (fun p1 => [.f (eTr tree), .f ((eL eTr) parts), .f ((eL (eP eI eI)) order), .u, .f (eI (p1).2), .f (eI (p1).1)]) (n_L (x_v (e := (eL (eP eI eI))) (a := order) (by rfl))) (fun p1 => by rfl) (fun p1 => (Rf.to (by first | rfl | (simp only [R.assoc, bind_ok, bind_id, bind_id2]; done) | (simp only [R.assoc, bind_ok, bind_id, bind_id2]; rfl)) (x_ix (x_v (e := (eL eTr)) (a := parts) (by rfl)) (x_v (e := eI) (a := (p1).2) (by rfl)) (i_L (e := eTr)))))) (b_tupL (e := eTr))))) trivial
    refine Sim.iteJ (mk' := fun (s : (List Tr)) (j : Bool) => [.f (eTr tree), slb j ((eL eTr) s), .u, .u, .u, .u]) (Rf.to (by first | rfl | (simp only [R.assoc, bind_ok, bind_id, bind_id2]; done) | (simp only [R.assoc, bind_ok, bind_id, bind_id2]; rfl)) (x_cmp (x_call1 (f := "least_thing") (x_ix (x_v (e := (eL eTr)) (a := parts) (by rfl)) (x_int (i := 0)) (i_L (e := eTr))) (fun a0 => sm_least_thing  k a0)) (fun x => c_one (x_call1 (f := "least_thing") (x_ix (x_v (e := (eL eTr)) (a := parts) (by rfl)) (x_bi1 (x_int (i := 1)) b_neg) (i_L (e := eTr))) (fun a0 => sm_least_thing  k a0)) (fun y => m_gt x y)))) trivial ?_ ?_ (fun s j => ?_)
    · refine Sim.asgL (by rfl) (fun parts1 => [.f (eTr tree), .f ((eL eTr) parts1), .u, .u, .u, .u]) (Rf.to (by first | rfl | (simp only [R.assoc, bind_ok, bind_id, bind_id2]; done) | (simp only [R.assoc, bind_ok, bind_id, bind_id2]; rfl)) (x_revL (x_v (e := (eL eTr)) (a := parts) (by rfl)))) trivial (fun parts1 => set_frz rfl rfl) (fun parts1 => ?_)
      exact Sim.nil (j := (true)) rfl
    · exact Sim.nil (j := (false)) rfl
    exact Sim.ret (Rf.to (by first | rfl | (simp only [R.assoc, bind_ok, bind_id, bind_id2]; done) | (simp only [R.assoc, bind_ok, bind_id, bind_id2]; rfl)) (x_node x_wr (x_bi1 (x_v (e := (eL eTr)) (a := s) (by exact rd_slb)) (b_tupL (e := eTr))))) trivial

theorem sm_normal : ∀ (k : Nat) (tree : Tr), Rf eTr (callP K25.T 1000 k "normal" [eTr tree]) (f_normal k tree)
  | 0, _ => trivial
  | k + 1, tree => by
    rw [f_normal]
    refine fn_sim (fn := ⟨1, 1, K25.ir_normal⟩) (by rfl) (by rfl) trivial ?_
    change Sim _ _ _ (evSs (callP K25.T 1000 k) 1000 K25.ir_normal [.f (eTr tree)]) _
    unfold K25.ir_normal
    refine Sim.exp (enc := (eT eI)) (Rf.to (by first | rfl | (simp only [R.assoc, bind_ok, bind_id, bind_id2]; done) | (simp only [R.assoc, bind_ok, bind_id, bind_id2]; rfl)) (x_call1 (f := "things_of") (x_v (e := eTr) (a := tree) (by rfl)) (fun a0 => sm_things_of  k a0))) trivial (fun _ => ?_)
    exact Sim.ret (Rf.to (by first | rfl | (simp only [R.assoc, bind_ok, bind_id, bind_id2]; done) | (simp only [R.assoc, bind_ok, bind_id, bind_id2]; rfl)) (x_call1 (f := "normalized") (x_v (e := eTr) (a := tree) (by rfl)) (fun a0 => sm_normalized  k a0))) trivial

theorem sm_pruned_within : ∀ (k : Nat) (tree : Tr) (things : (List Int)), Rf (eL eTr) (callP K25.T 1000 k "pruned_within" [eTr tree, (eT eI) things]) (f_pruned_within k tree things)
  | 0, _, _ => trivial
  | k + 1, tree, things => by
    rw [f_pruned_within]
    refine fn_sim (fn := ⟨2, 5, K25.ir_pruned_within⟩) (by rfl) (by rfl) trivial ?_
    change Sim _ _ _ (evSs (callP K25.T 1000 k) 1000 K25.ir_pruned_within [.f (eTr tree), .f ((eT eI) things), .u, .u, .u]) _
    unfold K25.ir_pruned_within
    refine Sim.ite1 (by rfl) (Rf.to (by first | rfl | (simp only [R.assoc, bind_ok, bind_id, bind_id2]; done) | (simp only [R.assoc, bind_ok, bind_id, bind_id2]; rfl)) (x_call1 (f := "is_thing") (x_v (e := eTr) (a := tree) (by rfl)) (fun a0 => sm_is_thing  k a0))) trivial ?_ ?_
    · exact Sim.ret (Rf.to (by first | rfl | (simp only [R.assoc, bind_ok, bind_id, bind_id2]; done) | (simp only [R.assoc, bind_ok, bind_id, bind_id2]; rfl)) (x_lc (e1 := eTr) (e := eTr) (p := fun thing => (((Tr.thing thing)).bind fun t => .ok (memB t things))) (g := fun thing => (.ok thing)) (fun thing => [.f (eTr tree), .f ((eT eI) things), .u, .u, .f (eTr thing)]) (n_L (x_lst (es_cons (x_v (e := eTr) (a := tree) (by rfl)) (es_nil (e := eTr))))) (fun thing => by rfl) (fun thing => t_yes (Rf.to (by first | rfl | (simp only [R.assoc, bind_ok, bind_id, bind_id2]; done) | (simp only [R.assoc, bind_ok, bind_id, bind_id2]; rfl)) (x_cmp (x_cop (e' := eI) (x_v (e := eTr) (a := thing) (by rfl)) cp_thing) (fun x => c_one (x_v (e := (eT eI)) (a := things) (by rfl)) (fun y => m_inT q_I (by decide) x y))))) (fun thing => (Rf.to (by first | rfl | (simp only [R.assoc, bind_ok, bind_id, bind_id2]; done) | (simp only [R.assoc, bind_ok, bind_id, bind_id2]; rfl)) (x_v (e := eTr) (a := thing) (by rfl)))))) trivial
    refine Sim.asgO flTr (by rfl) (fun parts => [.f (eTr tree), .f ((eT eI) things), .o ((eL eTr) parts), .u, .u]) (Rf.to (by first | rfl | (simp only [R.assoc, bind_ok, bind_id, bind_id2]; done) | (simp only [R.assoc, bind_ok, bind_id, bind_id2]; rfl)) (x_lst (es_nil (e := eTr)))) trivial (fun parts => by rfl) (fun parts => ?_)
    refine Sim.for (mkL := fun (s1 : (List Tr)) (j1 : Sl) => [.f (eTr tree), .f ((eT eI) things), .o ((eL eTr) s1), j1, .u]) (env1 := fun part s1 j1 => [.f (eTr tree), .f ((eT eI) things), .o ((eL eTr) s1), .f (eTr part), .u]) (s0 := (parts)) (j0 := (.u)) (e := eTr) (Rf.to (by first | rfl | (simp only [R.assoc, bind_ok, bind_id, bind_id2]; done) | (simp only [R.assoc, bind_ok, bind_id, bind_id2]; rfl)) (n_T (x_parts (x_v (e := eTr) (a := tree) (by rfl))))) trivial rfl (fun part s1 j1 => by rfl) (fun part s1 j1 => ?_) (fun s1 j1 => ?_)
    · refine Sim.ext (b := false) flTr (fun parts1 => [.f (eTr tree), .f ((eT eI) things), .o ((eL eTr) parts1), .f (eTr part), .u]) (Rf.to (by first | rfl | (simp only [R.assoc, bind_ok, bind_id, bind_id2]; done) | (simp only [R.assoc, bind_ok, bind_id, bind_id2]; rfl)) ((x_co (e' := (eSq false eTr)) (f := fun a => a) (x_call2 (f := "pruned_within") (x_v (e := eTr) (a := part) (by rfl)) (x_v (e := (eT eI)) (a := things) (by rfl)) (fun a0 a1 => sm_pruned_within  k a0 a1)) co_SL).to (bind_id _))) trivial (by rfl) (fun parts1 => by rfl) (fun parts1 => ?_)
      exact Sim.nil (j := (.f (eTr part))) rfl
    refine Sim.ite1 (by rfl) (Rf.to (by first | rfl | (simp only [R.assoc, bind_ok, bind_id, bind_id2]; done) | (simp only [R.assoc, bind_ok, bind_id, bind_id2]; rfl)) (x_cmp (x_v (e := (eL eTr)) (a := s1) (by rfl)) (fun x => c_oneV (x_lst (es_nil (e := eTr))) (m_eqNil x [] rfl)))) trivial ?_ ?_
    · exact Sim.ret (Rf.to (by first | rfl | (simp only [R.assoc, bind_ok, bind_id, bind_id2]; done) | (simp only [R.assoc, bind_ok, bind_id, bind_id2]; rfl)) (x_lst (es_nil (e := eTr)))) trivial
    refine Sim.ite1 (by rfl) (Rf.to (by first | rfl | (simp only [R.assoc, bind_ok, bind_id, bind_id2]; done) | (simp only [R.assoc, bind_ok, bind_id, bind_id2]; rfl)) (x_cmp (x_word (x_v (e := eTr) (a := tree) (by rfl))) (fun x => c_oneV (x_str (i := "any")) (m_eqWa x)))) trivial ?_ ?_
    · exact Sim.ret (Rf.to (by first | rfl | (simp only [R.assoc, bind_ok, bind_id, bind_id2]; done) | (simp only [R.assoc, bind_ok, bind_id, bind_id2]; rfl)) (x_lst (es_cons (x_call1 (f := "make_any") (x_v (e := (eL eTr)) (a := s1) (by rfl)) (fun a0 => sm_make_any  k a0)) (es_nil (e := eTr))))) trivial
    exact Sim.ret (Rf.to (by first | rfl | (simp only [R.assoc, bind_ok, bind_id, bind_id2]; done) | (simp only [R.assoc, bind_ok, bind_id, bind_id2]; rfl)) (x_lst (es_cons (x_call1 (f := "make_row") (x_v (e := (eL eTr)) (a := s1) (by rfl)) (fun a0 => sm_make_row  k a0)) (es_nil (e := eTr))))) trivial

theorem sm_pruned : ∀ (k : Nat) (tree : Tr) (things : (List Int)), Rf eTr (callP K25.T 1000 k "pruned" [eTr tree, (eT eI) things]) (f_pruned k tree things)
  | 0, _, _ => trivial
  | k + 1, tree, things => by
    rw [f_pruned]
    refine fn_sim (fn := ⟨2, 2, K25.ir_pruned⟩) (by rfl) (by rfl) trivial ?_
    change Sim _ _ _ (evSs (callP K25.T 1000 k) 1000 K25.ir_pruned [.f (eTr tree), .f ((eT eI) things)]) _
    unfold K25.ir_pruned
    refine Sim.exp (enc := eN) (Rf.to (by first | rfl | (simp only [R.assoc, bind_ok, bind_id, bind_id2]; done) | (simp only [R.assoc, bind_ok, bind_id, bind_id2]; rfl)) (x_call1 (f := "need_tree") (x_v (e := eTr) (a := tree) (by rfl)) (fun a0 => sm_need_tree  k a0))) trivial (fun _ => ?_)
    refine Sim.exp (enc := (eT eI)) (Rf.to (by first | rfl | (simp only [R.assoc, bind_ok, bind_id, bind_id2]; done) | (simp only [R.assoc, bind_ok, bind_id, bind_id2]; rfl)) (x_call2 (f := "check_set") (x_bi1 (x_call1 (f := "listed") (x_v (e := eTr) (a := tree) (by rfl)) (fun a0 => sm_listed  k a0)) (b_lenL (e := eI))) (x_v (e := (eT eI)) (a := things) (by rfl)) (fun a0 a1 => sm_check_set  k a0 a1))) trivial (fun _ => ?_)
    refine Sim.ite1 (by rfl) (Rf.to (by first | rfl | (simp only [R.assoc, bind_ok, bind_id, bind_id2]; done) | (simp only [R.assoc, bind_ok, bind_id, bind_id2]; rfl)) (x_cmp (x_bi1 (x_v (e := (eT eI)) (a := things) (by rfl)) (b_lenT (e := eI))) (fun x => c_one (x_int (i := 0)) (fun y => m_eq q_I (by decide) x y)))) trivial ?_ ?_
    · exact Sim.raise trivial
    exact Sim.ret (Rf.to (by first | rfl | (simp only [R.assoc, bind_ok, bind_id, bind_id2]; done) | (simp only [R.assoc, bind_ok, bind_id, bind_id2]; rfl)) (x_call1 (f := "normalized") (x_ix (x_call2 (f := "pruned_within") (x_v (e := eTr) (a := tree) (by rfl)) (x_v (e := (eT eI)) (a := things) (by rfl)) (fun a0 a1 => sm_pruned_within  k a0 a1)) (x_int (i := 0)) (i_L (e := eTr))) (fun a0 => sm_normalized  k a0))) trivial

theorem sm_law_cell : ∀ (k : Nat) (script : (List Int)) (k_ : Int), Rf eI (callP K25.T 1000 k "_law_cell" [(eL eI) script, eI k_]) (f_law_cell k script k_)
  | 0, _, _ => trivial
  | k + 1, script, k_ => by
    rw [f_law_cell]
    refine fn_sim (fn := ⟨2, 2, K25.ir__law_cell⟩) (by rfl) (by rfl) trivial ?_
    change Sim _ _ _ (evSs (callP K25.T 1000 k) 1000 K25.ir__law_cell [.f ((eL eI) script), .f (eI k_)]) _
    unfold K25.ir__law_cell
    refine Sim.ite1 (by rfl) (Rf.to (by first | rfl | (simp only [R.assoc, bind_ok, bind_id, bind_id2]; done) | (simp only [R.assoc, bind_ok, bind_id, bind_id2]; rfl)) (x_cmp (x_v (e := eI) (a := k_) (by rfl)) (fun x => c_one (x_bi1 (x_v (e := (eL eI)) (a := script) (by rfl)) (b_lenL (e := eI))) (fun y => m_lt x y)))) trivial ?_ ?_
    · exact Sim.ret (Rf.to (by first | rfl | (simp only [R.assoc, bind_ok, bind_id, bind_id2]; done) | (simp only [R.assoc, bind_ok, bind_id, bind_id2]; rfl)) (x_ix (x_v (e := (eL eI)) (a := script) (by rfl)) (x_v (e := eI) (a := k_) (by rfl)) (i_L (e := eI)))) trivial
    exact Sim.ret (Rf.to (by first | rfl | (simp only [R.assoc, bind_ok, bind_id, bind_id2]; done) | (simp only [R.assoc, bind_ok, bind_id, bind_id2]; rfl)) (x_int (i := 0))) trivial

theorem sm_law_digits : ∀ (k : Nat) (cell_here : Int) (sizes : (List Int)), Rf (eL eI) (callP K25.T 1000 k "_law_digits" [eI cell_here, (eL eI) sizes]) (f_law_digits k cell_here sizes)
  | 0, _, _ => trivial
  | k + 1, cell_here, sizes => by
    rw [f_law_digits]
    refine fn_sim (fn := ⟨2, 4, K25.ir__law_digits⟩) (by rfl) (by rfl) trivial ?_
    change Sim _ _ _ (evSs (callP K25.T 1000 k) 1000 K25.ir__law_digits [.f (eI cell_here), .f ((eL eI) sizes), .u, .u]) _
    unfold K25.ir__law_digits
    refine Sim.asgO flI (by rfl) (fun row => [.f (eI cell_here), .f ((eL eI) sizes), .o ((eL eI) row), .u]) (Rf.to (by first | rfl | (simp only [R.assoc, bind_ok, bind_id, bind_id2]; done) | (simp only [R.assoc, bind_ok, bind_id, bind_id2]; rfl)) (x_lst (es_nil (e := eI)))) trivial (fun row => by rfl) (fun row => ?_)
    refine Sim.for (mkL := fun (s1 : Int × (List Int)) (j1 : Sl) => [.f (eI s1.1), .f ((eL eI) sizes), .o ((eL eI) s1.2), j1]) (env1 := fun size s1 j1 => [.f (eI s1.1), .f ((eL eI) sizes), .o ((eL eI) s1.2), .f (eI size)]) (s0 := (cell_here, row)) (j0 := (.u)) (e := eI) (Rf.to (by first | rfl | (simp only [R.assoc, bind_ok, bind_id, bind_id2]; done) | (simp only [R.assoc, bind_ok, bind_id, bind_id2]; rfl)) (n_L (x_v (e := (eL eI)) (a := sizes) (by rfl)))) trivial rfl (fun size s1 j1 => by rfl) (fun size s1 j1 => ?_) (fun s1 j1 => ?_)
    · refine Sim.app flI (fun row1 => [.f (eI s1.1), .f ((eL eI) sizes), .o ((eL eI) row1), .f (eI size)]) (Rf.to (by first | rfl | (simp only [R.assoc, bind_ok, bind_id, bind_id2]; done) | (simp only [R.assoc, bind_ok, bind_id, bind_id2]; rfl)) (x_op (x_bi1 (x_v (e := eI) (a := s1.1) (by rfl)) b_int) (x_v (e := eI) (a := size) (by rfl)) o_mod)) trivial (by rfl) (fun row1 => by rfl) (fun row1 => ?_)
      refine Sim.asgF flI (fun cell_here1 => [.f (eI cell_here1), .f ((eL eI) sizes), .o ((eL eI) row1), .f (eI size)]) (Rf.to (by first | rfl | (simp only [R.assoc, bind_ok, bind_id, bind_id2]; done) | (simp only [R.assoc, bind_ok, bind_id, bind_id2]; rfl)) (x_op (x_v (e := eI) (a := s1.1) (by rfl)) (x_v (e := eI) (a := size) (by rfl)) o_div)) trivial (fun cell_here1 => by rfl) (fun cell_here1 => ?_)
      exact Sim.nil (j := (.f (eI size))) rfl
    exact Sim.ret (Rf.to (by first | rfl | (simp only [R.assoc, bind_ok, bind_id, bind_id2]; done) | (simp only [R.assoc, bind_ok, bind_id, bind_id2]; rfl)) (x_v (e := (eL eI)) (a := s1.2) (by rfl))) trivial

theorem sm_law_rich : ∀ (k : Nat) (cell_here : Int), Rf eI (callP K25.T 1000 k "_law_rich" [eI cell_here]) (f_law_rich k cell_here)
  | 0, _ => trivial
  | k + 1, cell_here => by
    rw [f_law_rich]
    refine fn_sim (fn := ⟨1, 3, K25.ir__law_rich⟩) (by rfl) (by rfl) trivial ?_
    change Sim _ _ _ (evSs (callP K25.T 1000 k) 1000 K25.ir__law_rich [.f (eI cell_here), .u, .u]) _
    unfold K25.ir__law_rich
    refine Sim.ite1 (by rfl) (Rf.to (by first | rfl | (simp only [R.assoc, bind_ok, bind_id, bind_id2]; done) | (simp only [R.assoc, bind_ok, bind_id, bind_id2]; rfl)) (x_cmp (x_v (e := eI) (a := cell_here) (by rfl)) (fun x => c_one (x_op (x_int (i := 10)) (x_int (i := 18)) o_pow) (fun y => m_ge x y)))) trivial ?_ ?_
    · exact Sim.ret (Rf.to (by first | rfl | (simp only [R.assoc, bind_ok, bind_id, bind_id2]; done) | (simp only [R.assoc, bind_ok, bind_id, bind_id2]; rfl)) (x_v (e := eI) (a := cell_here) (by rfl))) trivial
    refine Sim.asgF flI (fun low => [.f (eI cell_here), .f (eI low), .u]) (Rf.to (by first | rfl | (simp only [R.assoc, bind_ok, bind_id, bind_id2]; done) | (simp only [R.assoc, bind_ok, bind_id, bind_id2]; rfl)) (x_op (x_bi1 (x_op (x_op (x_v (e := eI) (a := cell_here) (by rfl)) (x_int (i := 48271)) o_mul) (x_int (i := 11)) o_add) b_int) (x_int (i := 2147483647)) o_mod)) trivial (fun low => by rfl) (fun low => ?_)
    refine Sim.asgF flI (fun high => [.f (eI cell_here), .f (eI low), .f (eI high)]) (Rf.to (by first | rfl | (simp only [R.assoc, bind_ok, bind_id, bind_id2]; done) | (simp only [R.assoc, bind_ok, bind_id, bind_id2]; rfl)) (x_op (x_bi1 (x_op (x_op (x_op (x_v (e := eI) (a := low) (by rfl)) (x_int (i := 69621)) o_mul) (x_op (x_v (e := eI) (a := cell_here) (by rfl)) (x_int (i := 7)) o_div) o_add) (x_int (i := 5)) o_add) b_int) (x_int (i := 2147483629)) o_mod)) trivial (fun high => by rfl) (fun high => ?_)
    exact Sim.ret (Rf.to (by first | rfl | (simp only [R.assoc, bind_ok, bind_id, bind_id2]; done) | (simp only [R.assoc, bind_ok, bind_id, bind_id2]; rfl)) (x_op (x_op (x_v (e := eI) (a := low) (by rfl)) (x_int (i := 2147483629)) o_mul) (x_v (e := eI) (a := high) (by rfl)) o_add)) trivial

theorem sm_law_order : ∀ (k : Nat) (cell_here : Int) (n : Int), Rf (eT eI) (callP K25.T 1000 k "_law_order" [eI cell_here, eI n]) (f_law_order k cell_here n)
  | 0, _, _ => trivial
  | k + 1, cell_here, n => by
    rw [f_law_order]
    refine fn_sim (fn := ⟨2, 7, K25.ir__law_order⟩) (by rfl) (by rfl) trivial ?_
    change Sim _ _ _ (evSs (callP K25.T 1000 k) 1000 K25.ir__law_order [.f (eI cell_here), .f (eI n), .u, .u, .u, .u, .u]) _
    unfold K25.ir__law_order
    refine Sim.asgO flI (by rfl) (fun left => [.f (eI cell_here), .f (eI n), .o ((eL eI) left), .u, .u, .u, .u]) (Rf.to (by first | rfl | (simp only [R.assoc, bind_ok, bind_id, bind_id2]; done) | (simp only [R.assoc, bind_ok, bind_id, bind_id2]; rfl)) (x_lci (e := eI) (fun thing => [.f (eI cell_here), .f (eI n), .u, .u, .u, .u, .f (eI thing)]) (n_r1 (x_v (e := eI) (a := n) (by rfl))) (fun thing => by rfl) (fun thing => (Rf.to (by first | rfl | (simp only [R.assoc, bind_ok, bind_id, bind_id2]; done) | (simp only [R.assoc, bind_ok, bind_id, bind_id2]; rfl)) (x_v (e := eI) (a := thing) (by rfl)))))) trivial (fun left => by rfl) (fun left => ?_)
    refine Sim.asgF flI (fun rest => [.f (eI cell_here), .f (eI n), .o ((eL eI) left), .f (eI rest), .u, .u, .u]) (Rf.to (by first | rfl | (simp only [R.assoc, bind_ok, bind_id, bind_id2]; done) | (simp only [R.assoc, bind_ok, bind_id, bind_id2]; rfl)) (x_call1 (f := "_law_rich") (x_v (e := eI) (a := cell_here) (by rfl)) (fun a0 => sm_law_rich  k a0))) trivial (fun rest => by rfl) (fun rest => ?_)
    refine Sim.asgO flI (by rfl) (fun order_here => [.f (eI cell_here), .f (eI n), .o ((eL eI) left), .f (eI rest), .o ((eL eI) order_here), .u, .u]) (Rf.to (by first | rfl | (simp only [R.assoc, bind_ok, bind_id, bind_id2]; done) | (simp only [R.assoc, bind_ok, bind_id, bind_id2]; rfl)) (x_lst (es_nil (e := eI)))) trivial (fun order_here => by rfl) (fun order_here => ?_)
    refine Sim.for (mkL := fun (s1 : (List Int) × Int × (List Int)) (j1 : Sl) => [.f (eI cell_here), .f (eI n), .o ((eL eI) s1.1), .f (eI s1.2.1), .o ((eL eI) s1.2.2), j1, .u]) (env1 := fun k_ s1 j1 => [.f (eI cell_here), .f (eI n), .o ((eL eI) s1.1), .f (eI s1.2.1), .o ((eL eI) s1.2.2), .f (eI k_), .u]) (s0 := (left, rest, order_here)) (j0 := (.u)) (e := eI) (Rf.to (by first | rfl | (simp only [R.assoc, bind_ok, bind_id, bind_id2]; done) | (simp only [R.assoc, bind_ok, bind_id, bind_id2]; rfl)) (n_r1 (x_v (e := eI) (a := n) (by rfl)))) trivial rfl (fun k_ s1 j1 => by rfl) (fun k_ s1 j1 => ?_) (fun s1 j1 => ?_)
    · refine Sim.appPop (by decide) (fun left1 order_here1 => [.f (eI cell_here), .f (eI n), .o ((eL eI) left1), .f (eI s1.2.1), .o ((eL eI) order_here1), .f (eI k_), .u]) (Rf.to (by first | rfl | (simp only [R.assoc, bind_ok, bind_id, bind_id2]; done) | (simp only [R.assoc, bind_ok, bind_id, bind_id2]; rfl)) (x_op (x_bi1 (x_v (e := eI) (a := s1.2.1) (by rfl)) b_int) (x_op (x_v (e := eI) (a := n) (by rfl)) (x_v (e := eI) (a := k_) (by rfl)) o_sub) o_mod)) trivial (by rfl) (by rfl) (fun left1 order_here1 => by rfl) (fun left1 order_here1 => ?_)
      refine Sim.asgF flI (fun rest1 => [.f (eI cell_here), .f (eI n), .o ((eL eI) left1), .f (eI rest1), .o ((eL eI) order_here1), .f (eI k_), .u]) (Rf.to (by first | rfl | (simp only [R.assoc, bind_ok, bind_id, bind_id2]; done) | (simp only [R.assoc, bind_ok, bind_id, bind_id2]; rfl)) (x_op (x_v (e := eI) (a := s1.2.1) (by rfl)) (x_op (x_v (e := eI) (a := n) (by rfl)) (x_v (e := eI) (a := k_) (by rfl)) o_sub) o_div)) trivial (fun rest1 => by rfl) (fun rest1 => ?_)
      refine Sim.iteJ (mk' := fun (s2 : Int) (j2 : Unit) => [.f (eI cell_here), .f (eI n), .o ((eL eI) left1), .f (eI s2), .o ((eL eI) order_here1), .f (eI k_), .u]) (Rf.to (by first | rfl | (simp only [R.assoc, bind_ok, bind_id, bind_id2]; done) | (simp only [R.assoc, bind_ok, bind_id, bind_id2]; rfl)) (x_cmp (x_v (e := eI) (a := rest1) (by rfl)) (fun x => c_one (x_int (i := 0)) (fun y => m_eq q_I (by decide) x y)))) trivial ?_ ?_ (fun s2 j2 => ?_)
      · refine Sim.asgF flI (fun rest2 => [.f (eI cell_here), .f (eI n), .o ((eL eI) left1), .f (eI rest2), .o ((eL eI) order_here1), .f (eI k_), .u]) (Rf.to (by first | rfl | (simp only [R.assoc, bind_ok, bind_id, bind_id2]; done) | (simp only [R.assoc, bind_ok, bind_id, bind_id2]; rfl)) (x_call1 (f := "_law_rich") (x_op (x_op (x_v (e := eI) (a := cell_here) (by rfl)) (x_v (e := eI) (a := k_) (by rfl)) o_add) (x_int (i := 1)) o_add) (fun a0 => sm_law_rich  k a0))) trivial (fun rest2 => by rfl) (fun rest2 => ?_)
        exact Sim.nil (j := ()) rfl
      · exact Sim.nil (j := ()) rfl
      exact Sim.nil (j := (.f (eI k_))) rfl
    exact Sim.ret (Rf.to (by first | rfl | (simp only [R.assoc, bind_ok, bind_id, bind_id2]; done) | (simp only [R.assoc, bind_ok, bind_id, bind_id2]; rfl)) (x_bi1 (x_v (e := (eL eI)) (a := s1.2.2) (by rfl)) (b_tupL (e := eI)))) trivial

theorem sm_law_set : ∀ (k : Nat) (cell_here : Int) (n : Int), Rf (eT eI) (callP K25.T 1000 k "_law_set" [eI cell_here, eI n]) (f_law_set k cell_here n)
  | 0, _, _ => trivial
  | k + 1, cell_here, n => by
    rw [f_law_set]
    refine fn_sim (fn := ⟨2, 4, K25.ir__law_set⟩) (by rfl) (by rfl) trivial ?_
    change Sim _ _ _ (evSs (callP K25.T 1000 k) 1000 K25.ir__law_set [.f (eI cell_here), .f (eI n), .u, .u]) _
    unfold K25.ir__law_set
    refine Sim.asgF flI (fun bits => [.f (eI cell_here), .f (eI n), .f (eI bits), .u]) (Rf.to (by first | rfl | (simp only [R.assoc, bind_ok, bind_id, bind_id2]; done) | (simp only [R.assoc, bind_ok, bind_id, bind_id2]; rfl)) (x_call1 (f := "_law_rich") (x_v (e := eI) (a := cell_here) (by rfl)) (fun a0 => sm_law_rich  k a0))) trivial (fun bits => by rfl) (fun bits => ?_)
    exact Sim.ret (Rf.to (by first | rfl | (simp only [R.assoc, bind_ok, bind_id, bind_id2]; done) | (simp only [R.assoc, bind_ok, bind_id, bind_id2]; rfl)) (x_bi1 (x_lc (e1 := eI) (e := eI) (p := fun thing => (((((((((tdiv bits (thing + 1))).bind fun t1 => ((((tmul thing thing)).bind fun t => .ok (1 + t))).bind fun t2 => (tdiv t1 t2))).bind fun t3 => .ok t3)).bind fun t4 => (tmod t4 2))).bind fun t5 => .ok (decide (t5 = 1)))) (g := fun thing => (.ok thing)) (fun thing => [.f (eI cell_here), .f (eI n), .f (eI bits), .f (eI thing)]) (n_r1 (x_v (e := eI) (a := n) (by rfl))) (fun thing => by rfl) (fun thing => t_yes (Rf.to (by first | rfl | (simp only [R.assoc, bind_ok, bind_id, bind_id2]; done) | (simp only [R.assoc, bind_ok, bind_id, bind_id2]; rfl)) (x_cmp (x_op (x_bi1 (x_op (x_op (x_v (e := eI) (a := bits) (by rfl)) (x_op (x_v (e := eI) (a := thing) (by rfl)) (x_int (i := 1)) o_add) o_div) (x_op (x_int (i := 1)) (x_op (x_v (e := eI) (a := thing) (by rfl)) (x_v (e := eI) (a := thing) (by rfl)) o_mul) o_add) o_div) b_int) (x_int (i := 2)) o_mod) (fun x => c_one (x_int (i := 1)) (fun y => m_eq q_I (by decide) x y))))) (fun thing => (Rf.to (by first | rfl | (simp only [R.assoc, bind_ok, bind_id, bind_id2]; done) | (simp only [R.assoc, bind_ok, bind_id, bind_id2]; rfl)) (x_v (e := eI) (a := thing) (by rfl))))) (b_tupL (e := eI)))) trivial

theorem sm_law_things : ∀ (k : Nat) (tree_here : Tr), Rf (eL eI) (callP K25.T 1000 k "_law_things" [eTr tree_here]) (f_law_things k tree_here)
  | 0, _ => trivial
  | k + 1, tree_here => by
    rw [f_law_things]
    refine fn_sim (fn := ⟨1, 3, K25.ir__law_things⟩) (by rfl) (by rfl) trivial ?_
    change Sim _ _ _ (evSs (callP K25.T 1000 k) 1000 K25.ir__law_things [.f (eTr tree_here), .u, .u]) _
    unfold K25.ir__law_things
    refine Sim.ite1 (by rfl) (Rf.to (by first | rfl | (simp only [R.assoc, bind_ok, bind_id, bind_id2]; done) | (simp only [R.assoc, bind_ok, bind_id, bind_id2]; rfl)) (x_bi1 (x_v (e := eTr) (a := tree_here) (by rfl)) b_isIntT)) trivial ?_ ?_
    · exact Sim.ret (Rf.to (by first | rfl | (simp only [R.assoc, bind_ok, bind_id, bind_id2]; done) | (simp only [R.assoc, bind_ok, bind_id, bind_id2]; rfl)) (x_lst (es_cons (x_cop (e' := eI) (x_v (e := eTr) (a := tree_here) (by rfl)) cp_thing) (es_nil (e := eI))))) trivial
    refine Sim.asgO flI (by rfl) (fun found => [.f (eTr tree_here), .o ((eL eI) found), .u]) (Rf.to (by first | rfl | (simp only [R.assoc, bind_ok, bind_id, bind_id2]; done) | (simp only [R.assoc, bind_ok, bind_id, bind_id2]; rfl)) (x_lst (es_nil (e := eI)))) trivial (fun found => by rfl) (fun found => ?_)
    refine Sim.for (mkL := fun (s2 : (List Int)) (j2 : Bool × Sl) => [.f (eTr tree_here), slb j2.1 ((eL eI) s2), j2.2]) (env1 := fun part s2 j2 => [.f (eTr tree_here), slb j2.1 ((eL eI) s2), .f (eTr part)]) (s0 := (found)) (j0 := (false, .u)) (e := eTr) (Rf.to (by first | rfl | (simp only [R.assoc, bind_ok, bind_id, bind_id2]; done) | (simp only [R.assoc, bind_ok, bind_id, bind_id2]; rfl)) (n_T (x_parts (x_v (e := eTr) (a := tree_here) (by rfl))))) trivial rfl (fun part s2 j2 => by rfl) (fun part s2 j2 => ?_) (fun s2 j2 => ?_)
    · refine Sim.asgL (by rfl) (fun found1 => [.f (eTr tree_here), .f ((eL eI) found1), .f (eTr part)]) (Rf.to (by first | rfl | (simp only [R.assoc, bind_ok, bind_id, bind_id2]; done) | (simp only [R.assoc, bind_ok, bind_id, bind_id2]; rfl)) (x_op (x_v (e := (eL eI)) (a := s2) (by exact rd_slb)) (x_call1 (f := "_law_things") (x_v (e := eTr) (a := part) (by rfl)) (fun a0 => sm_law_things  k a0)) (o_catL (e := eI)))) trivial (fun found1 => set_frz (frz_c rfl (frz_c frz1_et (frz_c rfl rfl))) rfl) (fun found1 => ?_)
      exact Sim.nil (j := (true, .f (eTr part))) rfl
    exact Sim.ret (Rf.to (by first | rfl | (simp only [R.assoc, bind_ok, bind_id, bind_id2]; done) | (simp only [R.assoc, bind_ok, bind_id, bind_id2]; rfl)) (x_v (e := (eL eI)) (a := s2) (by exact rd_slb))) trivial

theorem sm_law_told : ∀ (k : Nat) (tree_here : Tr) (order_here : (List Int)), Rf eB (callP K25.T 1000 k "_law_told" [eTr tree_here, (eT eI) order_here]) (f_law_told k tree_here order_here)
  | 0, _, _ => trivial
  | k + 1, tree_here, order_here => by
    rw [f_law_told]
    refine fn_sim (fn := ⟨2, 7, K25.ir__law_told⟩) (by rfl) (by rfl) trivial ?_
    change Sim _ _ _ (evSs (callP K25.T 1000 k) 1000 K25.ir__law_told [.f (eTr tree_here), .f ((eT eI) order_here), .u, .u, .u, .u, .u]) _
    unfold K25.ir__law_told
    refine Sim.ite1 (by rfl) (Rf.to (by first | rfl | (simp only [R.assoc, bind_ok, bind_id, bind_id2]; done) | (simp only [R.assoc, bind_ok, bind_id, bind_id2]; rfl)) (x_bi1 (x_v (e := eTr) (a := tree_here) (by rfl)) b_isIntT)) trivial ?_ ?_
    · exact Sim.ret (Rf.to (by first | rfl | (simp only [R.assoc, bind_ok, bind_id, bind_id2]; done) | (simp only [R.assoc, bind_ok, bind_id, bind_id2]; rfl)) (x_cmp (x_bi1 (x_v (e := (eT eI)) (a := order_here) (by rfl)) (b_tupT (e := eI))) (fun x => c_one (x_tup (es_cons (x_cop (e' := eI) (x_v (e := eTr) (a := tree_here) (by rfl)) cp_thing) (es_nil (e := eI)))) (fun y => m_eq (q_T q_I) (by decide) x y)))) trivial
    refine Sim.asgF (flT flI) (fun rest => [.f (eTr tree_here), .f ((eT eI) order_here), .f ((eT eI) rest), .u, .u, .u, .u]) (Rf.to (by first | rfl | (simp only [R.assoc, bind_ok, bind_id, bind_id2]; done) | (simp only [R.assoc, bind_ok, bind_id, bind_id2]; rfl)) (x_bi1 (x_v (e := (eT eI)) (a := order_here) (by rfl)) (b_tupT (e := eI)))) trivial (fun rest => by rfl) (fun rest => ?_)
    refine Sim.asgO flI (by rfl) (fun sequence => [.f (eTr tree_here), .f ((eT eI) order_here), .f ((eT eI) rest), .o ((eL eI) sequence), .u, .u, .u]) (Rf.to (by first | rfl | (simp only [R.assoc, bind_ok, bind_id, bind_id2]; done) | (simp only [R.assoc, bind_ok, bind_id, bind_id2]; rfl)) (x_lst (es_nil (e := eI)))) trivial (fun sequence => by rfl) (fun sequence => ?_)
    refine Sim.for (mkL := fun (s1 : (List Int) × (List Int)) (j1 : Sl × Sl × Sl) => [.f (eTr tree_here), .f ((eT eI) order_here), .f ((eT eI) s1.1), .o ((eL eI) s1.2), j1.1, j1.2.1, j1.2.2]) (env1 := fun step s1 j1 => [.f (eTr tree_here), .f ((eT eI) order_here), .f ((eT eI) s1.1), .o ((eL eI) s1.2), .f (eI step), j1.2.1, j1.2.2]) (s0 := (rest, sequence)) (j0 := (.u, .u, .u)) (e := eI) (Rf.to (by first | rfl | (simp only [R.assoc, bind_ok, bind_id, bind_id2]; done) | (simp only [R.assoc, bind_ok, bind_id, bind_id2]; rfl)) (n_r1 (x_bi1 (x_parts (x_v (e := eTr) (a := tree_here) (by rfl))) (b_lenT (e := eTr))))) trivial rfl (fun step s1 j1 => by rfl) (fun step s1 j1 => ?_) (fun s1 j1 => ?_)
    · refine Sim.for (mkL := fun (s3 : (List Int) × (List Int)) (j3 : Sl × Sl) => [.f (eTr tree_here), .f ((eT eI) order_here), .f ((eT eI) s3.1), .o ((eL eI) s3.2), .f (eI step), j3.1, j3.2]) (env1 := fun k_ s3 j3 => [.f (eTr tree_here), .f ((eT eI) order_here), .f ((eT eI) s3.1), .o ((eL eI) s3.2), .f (eI step), .f (eI k_), j3.2]) (s0 := (s1.1, s1.2)) (j0 := (j1.2.1, j1.2.2)) (e := eI) (Rf.to (by first | rfl | (simp only [R.assoc, bind_ok, bind_id, bind_id2]; done) | (simp only [R.assoc, bind_ok, bind_id, bind_id2]; rfl)) (n_r1 (x_bi1 (x_parts (x_v (e := eTr) (a := tree_here) (by rfl))) (b_lenT (e := eTr))))) trivial rfl (fun k_ s3 j3 => by rfl) (fun k_ s3 j3 => ?_) (fun s3 j3 => ?_)
      · refine Sim.asgF flI (fun size => [.f (eTr tree_here), .f ((eT eI) order_here), .f ((eT eI) s3.1), .o ((eL eI) s3.2), .f (eI step), .f (eI k_), .f (eI size)]) (Rf.to (by first | rfl | (simp only [R.assoc, bind_ok, bind_id, bind_id2]; done) | (simp only [R.assoc, bind_ok, bind_id, bind_id2]; rfl)) (x_bi1 (x_call1 (f := "_law_things") (x_ix (x_parts (x_v (e := eTr) (a := tree_here) (by rfl))) (x_v (e := eI) (a := k_) (by rfl)) (i_T (e := eTr))) (fun a0 => sm_law_things  k a0)) (b_lenL (e := eI)))) trivial (fun size => by rfl) (fun size => ?_)
        refine Sim.ite1 (by rfl) (Rf.to (by first | rfl | (simp only [R.assoc, bind_ok, bind_id, bind_id2]; done) | (simp only [R.assoc, bind_ok, bind_id, bind_id2]; rfl)) (x_and (x_cmp (x_v (e := eI) (a := k_) (by rfl)) (fun x => c_one (x_v (e := (eL eI)) (a := s3.2) (by rfl)) (fun y => m_ninL q_I (by decide) x y))) (x_cmp (x_bi1 (x_sl (x_v (e := (eT eI)) (a := s3.1) (by rfl)) o_no (o_yes (x_v (e := eI) (a := size) (by rfl))) (s_T (e := eI))) b_sortT) (fun x => c_one (x_bi1 (x_call1 (f := "_law_things") (x_ix (x_parts (x_v (e := eTr) (a := tree_here) (by rfl))) (x_v (e := eI) (a := k_) (by rfl)) (i_T (e := eTr))) (fun a0 => sm_law_things  k a0)) b_sortL) (fun y => m_eq (q_L q_I) (by decide) x y))))) trivial ?_ ?_
        · refine Sim.ite1 (by rfl) (Rf.to (by first | rfl | (simp only [R.assoc, bind_ok, bind_id, bind_id2]; done) | (simp only [R.assoc, bind_ok, bind_id, bind_id2]; rfl)) (x_not (x_call2 (f := "_law_told") (x_ix (x_parts (x_v (e := eTr) (a := tree_here) (by rfl))) (x_v (e := eI) (a := k_) (by rfl)) (i_T (e := eTr))) (x_sl (x_v (e := (eT eI)) (a := s3.1) (by rfl)) o_no (o_yes (x_v (e := eI) (a := size) (by rfl))) (s_T (e := eI))) (fun a0 a1 => sm_law_told  k a0 a1)))) trivial ?_ ?_
          · exact Sim.ret (Rf.to (by first | rfl | (simp only [R.assoc, bind_ok, bind_id, bind_id2]; done) | (simp only [R.assoc, bind_ok, bind_id, bind_id2]; rfl)) x_bl) trivial
          refine Sim.app flI (fun sequence1 => [.f (eTr tree_here), .f ((eT eI) order_here), .f ((eT eI) s3.1), .o ((eL eI) sequence1), .f (eI step), .f (eI k_), .f (eI size)]) (Rf.to (by first | rfl | (simp only [R.assoc, bind_ok, bind_id, bind_id2]; done) | (simp only [R.assoc, bind_ok, bind_id, bind_id2]; rfl)) (x_v (e := eI) (a := k_) (by rfl))) trivial (by rfl) (fun sequence1 => by rfl) (fun sequence1 => ?_)
          refine Sim.asgF (flT flI) (fun rest1 => [.f (eTr tree_here), .f ((eT eI) order_here), .f ((eT eI) rest1), .o ((eL eI) sequence1), .f (eI step), .f (eI k_), .f (eI size)]) (Rf.to (by first | rfl | (simp only [R.assoc, bind_ok, bind_id, bind_id2]; done) | (simp only [R.assoc, bind_ok, bind_id, bind_id2]; rfl)) (x_sl (x_v (e := (eT eI)) (a := s3.1) (by rfl)) (o_yes (x_v (e := eI) (a := size) (by rfl))) o_no (s_T (e := eI)))) trivial (fun rest1 => by rfl) (fun rest1 => ?_)
          exact Sim.brk (j := (.f (eI k_), .f (eI size))) rfl
        exact Sim.nil (j := (.f (eI k_), .f (eI size))) rfl
      exact Sim.nil (j := (.f (eI step), j3.1, j3.2)) rfl
    refine Sim.ite1 (by rfl) (Rf.to (by first | rfl | (simp only [R.assoc, bind_ok, bind_id, bind_id2]; done) | (simp only [R.assoc, bind_ok, bind_id, bind_id2]; rfl)) (x_orp (x_cmp (x_bi1 (x_v (e := (eL eI)) (a := s1.2) (by rfl)) (b_lenL (e := eI))) (fun x => c_one (x_bi1 (x_parts (x_v (e := eTr) (a := tree_here) (by rfl))) (b_lenT (e := eTr))) (fun y => m_lt x y))) (x_cmp (x_bi1 (x_v (e := (eT eI)) (a := s1.1) (by rfl)) (b_lenT (e := eI))) (fun x => c_one (x_int (i := 0)) (fun y => m_gt x y))))) trivial ?_ ?_
    · exact Sim.ret (Rf.to (by first | rfl | (simp only [R.assoc, bind_ok, bind_id, bind_id2]; done) | (simp only [R.assoc, bind_ok, bind_id, bind_id2]; rfl)) x_bl) trivial
    exact Sim.ret (Rf.to (by first | rfl | (simp only [R.assoc, bind_ok, bind_id, bind_id2]; done) | (simp only [R.assoc, bind_ok, bind_id, bind_id2]; rfl)) (x_orp (x_cmp (x_word (x_v (e := eTr) (a := tree_here) (by rfl))) (fun x => c_oneV (x_str (i := "any")) (m_eqWa x))) (x_orp (x_cmp (x_v (e := (eL eI)) (a := s1.2) (by rfl)) (fun x => c_one (x_bi1 (x_v (e := (eL eI)) (a := s1.2) (by rfl)) b_sortL) (fun y => m_eq (q_L q_I) (by decide) x y))) (x_cmp (x_v (e := (eL eI)) (a := s1.2) (by rfl)) (fun x => c_one (x_revL (x_bi1 (x_v (e := (eL eI)) (a := s1.2) (by rfl)) b_sortL)) (fun y => m_eq (q_L q_I) (by decide) x y)))))) trivial

theorem sm_law_tree : ∀ (k : Nat) (cell_here : Int) (n : Int), Rf eTr (callP K25.T 1000 k "_law_tree" [eI cell_here, eI n]) (f_law_tree k cell_here n)
  | 0, _, _ => trivial
  | k + 1, cell_here, n => by
    rw [f_law_tree]
    refine fn_sim (fn := ⟨2, 9, K25.ir__law_tree⟩) (by rfl) (by rfl) trivial ?_
    change Sim _ _ _ (evSs (callP K25.T 1000 k) 1000 K25.ir__law_tree [.f (eI cell_here), .f (eI n), .u, .u, .u, .u, .u, .u, .u]) _
    unfold K25.ir__law_tree
    refine Sim.asgO flTr (by rfl) (fun parts => [.f (eI cell_here), .f (eI n), .o ((eL eTr) parts), .u, .u, .u, .u, .u, .u]) (Rf.to (by first | rfl | (simp only [R.assoc, bind_ok, bind_id, bind_id2]; done) | (simp only [R.assoc, bind_ok, bind_id, bind_id2]; rfl)) (x_co (e' := (eL eTr)) (f := (List.map Tr.leaf)) (x_bi1 (x_call2 (f := "_law_order") (x_v (e := eI) (a := cell_here) (by rfl)) (x_v (e := eI) (a := n) (by rfl)) (fun a0 a1 => sm_law_order  k a0 a1)) (b_lstT (e := eI))) (co_L co_leaf))) trivial (fun parts => by rfl) (fun parts => ?_)
    refine Sim.asgF flI (fun rest => [.f (eI cell_here), .f (eI n), .o ((eL eTr) parts), .f (eI rest), .u, .u, .u, .u, .u]) (Rf.to (by first | rfl | (simp only [R.assoc, bind_ok, bind_id, bind_id2]; done) | (simp only [R.assoc, bind_ok, bind_id, bind_id2]; rfl)) (x_call1 (f := "_law_rich") (x_op (x_op (x_v (e := eI) (a := cell_here) (by rfl)) (x_int (i := 3)) o_div) (x_int (i := 7)) o_add) (fun a0 => sm_law_rich  k a0))) trivial (fun rest => by rfl) (fun rest => ?_)
    refine Sim.for (mkL := fun (s2 : (List Tr) × Int) (j2 : Bool × Sl × Sl × Sl × Sl × Sl) => [.f (eI cell_here), .f (eI n), slb j2.1 ((eL eTr) s2.1), .f (eI s2.2), j2.2.1, j2.2.2.1, j2.2.2.2.1, j2.2.2.2.2.1, j2.2.2.2.2.2]) (env1 := fun step s2 j2 => [.f (eI cell_here), .f (eI n), slb j2.1 ((eL eTr) s2.1), .f (eI s2.2), .f (eI step), j2.2.2.1, j2.2.2.2.1, j2.2.2.2.2.1, j2.2.2.2.2.2]) (s0 := (parts, rest)) (j0 := (false, .u, .u, .u, .u, .u)) (e := eI) (Rf.to (by first | rfl | (simp only [R.assoc, bind_ok, bind_id, bind_id2]; done) | (simp only [R.assoc, bind_ok, bind_id, bind_id2]; rfl)) (n_r1 (x_int (i := 30)))) trivial rfl (fun step s2 j2 => by rfl) (fun step s2 j2 => ?_) (fun s2 j2 => ?_)
    · refine Sim.ite1 (by rfl) (Rf.to (by first | rfl | (simp only [R.assoc, bind_ok, bind_id, bind_id2]; done) | (simp only [R.assoc, bind_ok, bind_id, bind_id2]; rfl)) (x_cmp (x_bi1 (x_v (e := (eL eTr)) (a := s2.1) (by exact rd_slb)) (b_lenL (e := eTr))) (fun x => c_one (x_int (i := 2)) (fun y => m_lt x y)))) trivial ?_ ?_
      · exact Sim.brk (j := (j2.1, .f (eI step), j2.2.2.1, j2.2.2.2.1, j2.2.2.2.2.1, j2.2.2.2.2.2)) rfl
      refine Sim.asgF flI (fun size => [.f (eI cell_here), .f (eI n), slb j2.1 ((eL eTr) s2.1), .f (eI s2.2), .f (eI step), .f (eI size), j2.2.2.2.1, j2.2.2.2.2.1, j2.2.2.2.2.2]) (Rf.to (by first | rfl | (simp only [R.assoc, bind_ok, bind_id, bind_id2]; done) | (simp only [R.assoc, bind_ok, bind_id, bind_id2]; rfl)) (x_op (x_int (i := 2)) (x_op (x_bi1 (x_v (e := eI) (a := s2.2) (by rfl)) b_int) (x_int (i := 4)) o_mod) o_add)) trivial (fun size => by rfl) (fun size => ?_)
      refine Sim.iteJ (mk' := fun (s3 : Int) (j3 : Unit) => [.f (eI cell_here), .f (eI n), slb j2.1 ((eL eTr) s2.1), .f (eI s2.2), .f (eI step), .f (eI s3), j2.2.2.2.1, j2.2.2.2.2.1, j2.2.2.2.2.2]) (Rf.to (by first | rfl | (simp only [R.assoc, bind_ok, bind_id, bind_id2]; done) | (simp only [R.assoc, bind_ok, bind_id, bind_id2]; rfl)) (x_cmp (x_op (x_bi1 (x_op (x_v (e := eI) (a := s2.2) (by rfl)) (x_int (i := 1024)) o_div) b_int) (x_int (i := 8)) o_mod) (fun x => c_one (x_int (i := 5)) (fun y => m_eq q_I (by decide) x y)))) trivial ?_ ?_ (fun s3 j3 => ?_)
      · refine Sim.asgF flI (fun size1 => [.f (eI cell_here), .f (eI n), slb j2.1 ((eL eTr) s2.1), .f (eI s2.2), .f (eI step), .f (eI size1), j2.2.2.2.1, j2.2.2.2.2.1, j2.2.2.2.2.2]) (Rf.to (by first | rfl | (simp only [R.assoc, bind_ok, bind_id, bind_id2]; done) | (simp only [R.assoc, bind_ok, bind_id, bind_id2]; rfl)) (x_int (i := 24))) trivial (fun size1 => by rfl) (fun size1 => ?_)
        exact Sim.nil (j := ()) rfl
      · exact Sim.nil (j := ()) rfl
      refine Sim.asgF flI (fun at_ => [.f (eI cell_here), .f (eI n), slb j2.1 ((eL eTr) s2.1), .f (eI s2.2), .f (eI step), .f (eI s3), .f (eI at_), j2.2.2.2.2.1, j2.2.2.2.2.2]) (Rf.to (by first | rfl | (simp only [R.assoc, bind_ok, bind_id, bind_id2]; done) | (simp only [R.assoc, bind_ok, bind_id, bind_id2]; rfl)) (x_op (x_bi1 (x_op (x_v (e := eI) (a := s2.2) (by rfl)) (x_int (i := 4)) o_div) b_int) (x_bi1 (x_v (e := (eL eTr)) (a := s2.1) (by exact rd_slb)) (b_lenL (e := eTr))) o_mod)) trivial (fun at_ => by rfl) (fun at_ => ?_)
      refine Sim.asgL (by rfl) (fun chosen => [.f (eI cell_here), .f (eI n), .f ((eL eTr) s2.1), .f (eI s2.2), .f (eI step), .f (eI s3), .f (eI at_), .f ((eL eTr) chosen), (frz1 false j2.2.2.2.2.2)]) (Rf.to (by first | rfl | (simp only [R.assoc, bind_ok, bind_id, bind_id2]; done) | (simp only [R.assoc, bind_ok, bind_id, bind_id2]; rfl)) (x_sl (x_v (e := (eL eTr)) (a := s2.1) (by exact rd_slb)) (o_yes (x_v (e := eI) (a := at_) (by rfl))) (o_yes (x_op (x_v (e := eI) (a := at_) (by rfl)) (x_v (e := eI) (a := s3) (by rfl)) o_add)) (s_L (e := eTr)))) trivial (fun chosen => set_frz (frz_c rfl (frz_c rfl (frz_c frz1_et (frz_c rfl (frz_c rfl (frz_c rfl (frz_c rfl (frz_c rfl (frz_c rfl rfl))))))))) rfl) (fun chosen => ?_)
      refine Sim.iteJ (mk' := fun (s4 : (List Tr)) (j4 : Sl) => [.f (eI cell_here), .f (eI n), .f ((eL eTr) s4), .f (eI s2.2), .f (eI step), .f (eI s3), .f (eI at_), .f ((eL eTr) chosen), j4]) (Rf.to (by first | rfl | (simp only [R.assoc, bind_ok, bind_id, bind_id2]; done) | (simp only [R.assoc, bind_ok, bind_id, bind_id2]; rfl)) (x_cmp (x_bi1 (x_v (e := (eL eTr)) (a := chosen) (by rfl)) (b_lenL (e := eTr))) (fun x => c_one (x_int (i := 1)) (fun y => m_gt x y)))) trivial ?_ ?_ (fun s4 j4 => ?_)
      · refine Sim.asgF flW (fun word => [.f (eI cell_here), .f (eI n), .f ((eL eTr) s2.1), .f (eI s2.2), .f (eI step), .f (eI s3), .f (eI at_), .f ((eL eTr) chosen), .f (eW word)]) (Rf.to (by first | rfl | (simp only [R.assoc, bind_ok, bind_id, bind_id2]; done) | (simp only [R.assoc, bind_ok, bind_id, bind_id2]; rfl)) x_wa) trivial (fun word => by rfl) (fun word => ?_)
        refine Sim.iteJ (mk' := fun (s5 : Bool) (j5 : Unit) => [.f (eI cell_here), .f (eI n), .f ((eL eTr) s2.1), .f (eI s2.2), .f (eI step), .f (eI s3), .f (eI at_), .f ((eL eTr) chosen), .f (eW s5)]) (Rf.to (by first | rfl | (simp only [R.assoc, bind_ok, bind_id, bind_id2]; done) | (simp only [R.assoc, bind_ok, bind_id, bind_id2]; rfl)) (x_and (x_cmp (x_bi1 (x_v (e := (eL eTr)) (a := chosen) (by rfl)) (b_lenL (e := eTr))) (fun x => c_one (x_int (i := 2)) (fun y => m_gt x y))) (x_cmp (x_op (x_bi1 (x_op (x_v (e := eI) (a := s2.2) (by rfl)) (x_int (i := 64)) o_div) b_int) (x_int (i := 2)) o_mod) (fun x => c_one (x_int (i := 1)) (fun y => m_eq q_I (by decide) x y))))) trivial ?_ ?_ (fun s5 j5 => ?_)
        · refine Sim.asgF flW (fun word1 => [.f (eI cell_here), .f (eI n), .f ((eL eTr) s2.1), .f (eI s2.2), .f (eI step), .f (eI s3), .f (eI at_), .f ((eL eTr) chosen), .f (eW word1)]) (Rf.to (by first | rfl | (simp only [R.assoc, bind_ok, bind_id, bind_id2]; done) | (simp only [R.assoc, bind_ok, bind_id, bind_id2]; rfl)) x_wr) trivial (fun word1 => by rfl) (fun word1 => ?_)
          exact Sim.nil (j := ()) rfl
        · exact Sim.nil (j := ()) rfl
        refine Sim.asgL (by rfl) (fun parts1 => [.f (eI cell_here), .f (eI n), .f ((eL eTr) parts1), .f (eI s2.2), .f (eI step), .f (eI s3), .f (eI at_), .f ((eL eTr) chosen), .f (eW s5)]) (Rf.to (by first | rfl | (simp only [R.assoc, bind_ok, bind_id, bind_id2]; done) | (simp only [R.assoc, bind_ok, bind_id, bind_id2]; rfl)) (x_op (x_op (x_sl (x_v (e := (eL eTr)) (a := s2.1) (by rfl)) o_no (o_yes (x_v (e := eI) (a := at_) (by rfl))) (s_L (e := eTr))) (x_lst (es_cons (x_node (x_v (e := eW) (a := s5) (by rfl)) (x_bi1 (x_v (e := (eL eTr)) (a := chosen) (by rfl)) (b_tupL (e := eTr)))) (es_nil (e := eTr)))) (o_catL (e := eTr))) (x_sl (x_v (e := (eL eTr)) (a := s2.1) (by rfl)) (o_yes (x_op (x_v (e := eI) (a := at_) (by rfl)) (x_v (e := eI) (a := s3) (by rfl)) o_add)) o_no (s_L (e := eTr))) (o_catL (e := eTr)))) trivial (fun parts1 => set_frz rfl rfl) (fun parts1 => ?_)
        exact Sim.nil (j := (.f (eW s5))) rfl
      · exact Sim.nil (j := ((frz1 false j2.2.2.2.2.2))) rfl
      refine Sim.asgF flI (fun rest1 => [.f (eI cell_here), .f (eI n), .f ((eL eTr) s4), .f (eI rest1), .f (eI step), .f (eI s3), .f (eI at_), .f ((eL eTr) chosen), j4]) (Rf.to (by first | rfl | (simp only [R.assoc, bind_ok, bind_id, bind_id2]; done) | (simp only [R.assoc, bind_ok, bind_id, bind_id2]; rfl)) (x_op (x_op (x_op (x_v (e := eI) (a := s2.2) (by rfl)) (x_int (i := 5)) o_div) (x_op (x_int (i := 1000003)) (x_v (e := eI) (a := step) (by rfl)) o_mul) o_add) (x_int (i := 17)) o_add)) trivial (fun rest1 => by rfl) (fun rest1 => ?_)
      exact Sim.nil (j := (true, .f (eI step), .f (eI s3), .f (eI at_), .f ((eL eTr) chosen), j4)) rfl
    refine Sim.iteJ (mk' := fun (s6 : (List Tr)) (j6 : Bool) => [.f (eI cell_here), .f (eI n), slb j6 ((eL eTr) s6), .f (eI s2.2), j2.2.1, j2.2.2.1, j2.2.2.2.1, j2.2.2.2.2.1, j2.2.2.2.2.2]) (Rf.to (by first | rfl | (simp only [R.assoc, bind_ok, bind_id, bind_id2]; done) | (simp only [R.assoc, bind_ok, bind_id, bind_id2]; rfl)) (x_cmp (x_bi1 (x_v (e := (eL eTr)) (a := s2.1) (by exact rd_slb)) (b_lenL (e := eTr))) (fun x => c_one (x_int (i := 1)) (fun y => m_gt x y)))) trivial ?_ ?_ (fun s6 j6 => ?_)
    · refine Sim.asgO flTr (by rfl) (fun parts2 => [.f (eI cell_here), .f (eI n), .o ((eL eTr) parts2), .f (eI s2.2), j2.2.1, j2.2.2.1, j2.2.2.2.1, j2.2.2.2.2.1, j2.2.2.2.2.2]) (Rf.to (by first | rfl | (simp only [R.assoc, bind_ok, bind_id, bind_id2]; done) | (simp only [R.assoc, bind_ok, bind_id, bind_id2]; rfl)) (x_lst (es_cons (x_node x_wa (x_bi1 (x_v (e := (eL eTr)) (a := s2.1) (by exact rd_slb)) (b_tupL (e := eTr)))) (es_nil (e := eTr))))) trivial (fun parts2 => by rfl) (fun parts2 => ?_)
      exact Sim.nil (j := (false)) rfl
    · exact Sim.nil (j := (j2.1)) rfl
    exact Sim.ret (Rf.to (by first | rfl | (simp only [R.assoc, bind_ok, bind_id, bind_id2]; done) | (simp only [R.assoc, bind_ok, bind_id, bind_id2]; rfl)) (x_ix (x_v (e := (eL eTr)) (a := s6) (by exact rd_slb)) (x_int (i := 0)) (i_L (e := eTr)))) trivial

theorem sm_law_shuffled : ∀ (k : Nat) (tree_here : Tr) (cell_here : Int), Rf eTr (callP K25.T 1000 k "_law_shuffled" [eTr tree_here, eI cell_here]) (f_law_shuffled k tree_here cell_here)
  | 0, _, _ => trivial
  | k + 1, tree_here, cell_here => by
    rw [f_law_shuffled]
    refine fn_sim (fn := ⟨2, 6, K25.ir__law_shuffled⟩) (by rfl) (by rfl) trivial ?_
    change Sim _ _ _ (evSs (callP K25.T 1000 k) 1000 K25.ir__law_shuffled [.f (eTr tree_here), .f (eI cell_here), .u, .u, .u, .u]) _
    unfold K25.ir__law_shuffled
    refine Sim.ite1 (by rfl) (Rf.to (by first | rfl | (simp only [R.assoc, bind_ok, bind_id, bind_id2]; done) | (simp only [R.assoc, bind_ok, bind_id, bind_id2]; rfl)) (x_bi1 (x_v (e := eTr) (a := tree_here) (by rfl)) b_isIntT)) trivial ?_ ?_
    · exact Sim.ret (Rf.to (by first | rfl | (simp only [R.assoc, bind_ok, bind_id, bind_id2]; done) | (simp only [R.assoc, bind_ok, bind_id, bind_id2]; rfl)) (x_v (e := eTr) (a := tree_here) (by rfl))) trivial
    refine Sim.asgO flTr (by rfl) (fun parts => [.f (eTr tree_here), .f (eI cell_here), .o ((eL eTr) parts), .u, .u, .u]) (Rf.to (by first | rfl | (simp only [R.assoc, bind_ok, bind_id, bind_id2]; done) | (simp only [R.assoc, bind_ok, bind_id, bind_id2]; rfl)) (x_lst (es_nil (e := eTr)))) trivial (fun parts => by rfl) (fun parts => ?_)
    refine Sim.asgF flI (fun rest => [.f (eTr tree_here), .f (eI cell_here), .o ((eL eTr) parts), .f (eI rest), .u, .u]) (Rf.to (by first | rfl | (simp only [R.assoc, bind_ok, bind_id, bind_id2]; done) | (simp only [R.assoc, bind_ok, bind_id, bind_id2]; rfl)) (x_call1 (f := "_law_rich") (x_v (e := eI) (a := cell_here) (by rfl)) (fun a0 => sm_law_rich  k a0))) trivial (fun rest => by rfl) (fun rest => ?_)
    refine Sim.for (mkL := fun (s1 : (List Tr) × Int) (j1 : Sl × Sl) => [.f (eTr tree_here), .f (eI cell_here), .o ((eL eTr) s1.1), .f (eI s1.2), j1.1, j1.2]) (env1 := fun part s1 j1 => [.f (eTr tree_here), .f (eI cell_here), .o ((eL eTr) s1.1), .f (eI s1.2), .f (eTr part), j1.2]) (s0 := (parts, rest)) (j0 := (.u, .u)) (e := eTr) (Rf.to (by first | rfl | (simp only [R.assoc, bind_ok, bind_id, bind_id2]; done) | (simp only [R.assoc, bind_ok, bind_id, bind_id2]; rfl)) (n_T (x_parts (x_v (e := eTr) (a := tree_here) (by rfl))))) trivial rfl (fun part s1 j1 => by rfl) (fun part s1 j1 => ?_) (fun s1 j1 => ?_)
    · refine Sim.asgF flTr (fun told_here => [.f (eTr tree_here), .f (eI cell_here), .o ((eL eTr) s1.1), .f (eI s1.2), .f (eTr part), .f (eTr told_here)]) (Rf.to (by first | rfl | (simp only [R.assoc, bind_ok, bind_id, bind_id2]; done) | (simp only [R.assoc, bind_ok, bind_id, bind_id2]; rfl)) (x_call2 (f := "_law_shuffled") (x_v (e := eTr) (a := part) (by rfl)) (x_op (x_op (x_v (e := eI) (a := s1.2) (by rfl)) (x_int (i := 3)) o_div) (x_int (i := 5)) o_add) (fun a0 a1 => sm_law_shuffled  k a0 a1))) trivial (fun told_here => by rfl) (fun told_here => ?_)
      refine Sim.iteJ (mk' := fun (s2 : (List Tr)) (j2 : Unit) => [.f (eTr tree_here), .f (eI cell_here), .o ((eL eTr) s2), .f (eI s1.2), .f (eTr part), .f (eTr told_here)]) (Rf.to (by first | rfl | (simp only [R.assoc, bind_ok, bind_id, bind_id2]; done) | (simp only [R.assoc, bind_ok, bind_id, bind_id2]; rfl)) (x_cmp (x_word (x_v (e := eTr) (a := tree_here) (by rfl))) (fun x => c_oneV (x_str (i := "any")) (m_eqWa x)))) trivial ?_ ?_ (fun s2 j2 => ?_)
      · refine Sim.ins flTr (fun parts1 => [.f (eTr tree_here), .f (eI cell_here), .o ((eL eTr) parts1), .f (eI s1.2), .f (eTr part), .f (eTr told_here)]) (Rf.to (by first | rfl | (simp only [R.assoc, bind_ok, bind_id, bind_id2]; done) | (simp only [R.assoc, bind_ok, bind_id, bind_id2]; rfl)) (x_op (x_bi1 (x_v (e := eI) (a := s1.2) (by rfl)) b_int) (x_op (x_bi1 (x_v (e := (eL eTr)) (a := s1.1) (by rfl)) (b_lenL (e := eTr))) (x_int (i := 1)) o_add) o_mod)) (Rf.to (by first | rfl | (simp only [R.assoc, bind_ok, bind_id, bind_id2]; done) | (simp only [R.assoc, bind_ok, bind_id, bind_id2]; rfl)) (x_v (e := eTr) (a := told_here) (by rfl))) trivial (by rfl) (fun parts1 => by rfl) (fun parts1 => ?_)
        exact Sim.nil (j := ()) rfl
      · refine Sim.app flTr (fun parts2 => [.f (eTr tree_here), .f (eI cell_here), .o ((eL eTr) parts2), .f (eI s1.2), .f (eTr part), .f (eTr told_here)]) (Rf.to (by first | rfl | (simp only [R.assoc, bind_ok, bind_id, bind_id2]; done) | (simp only [R.assoc, bind_ok, bind_id, bind_id2]; rfl)) (x_v (e := eTr) (a := told_here) (by rfl))) trivial (by rfl) (fun parts2 => by rfl) (fun parts2 => ?_)
        exact Sim.nil (j := ()) rfl
      refine Sim.asgF flI (fun rest1 => [.f (eTr tree_here), .f (eI cell_here), .o ((eL eTr) s2), .f (eI rest1), .f (eTr part), .f (eTr told_here)]) (Rf.to (by first | rfl | (simp only [R.assoc, bind_ok, bind_id, bind_id2]; done) | (simp only [R.assoc, bind_ok, bind_id, bind_id2]; rfl)) (x_op (x_op (x_v (e := eI) (a := s1.2) (by rfl)) (x_int (i := 7)) o_div) (x_int (i := 99)) o_add)) trivial (fun rest1 => by rfl) (fun rest1 => ?_)
      exact Sim.nil (j := (.f (eTr part), .f (eTr told_here))) rfl
    refine Sim.iteJ (mk' := fun (s3 : (List Tr)) (j3 : Bool × Sl × Sl) => [.f (eTr tree_here), .f (eI cell_here), slb j3.1 ((eL eTr) s3), .f (eI s1.2), j3.2.1, j3.2.2]) (Rf.to (by first | rfl | (simp only [R.assoc, bind_ok, bind_id, bind_id2]; done) | (simp only [R.assoc, bind_ok, bind_id, bind_id2]; rfl)) (x_and (x_cmp (x_word (x_v (e := eTr) (a := tree_here) (by rfl))) (fun x => c_oneV (x_str (i := "row")) (m_eqWr x))) (x_cmp (x_op (x_bi1 (x_v (e := eI) (a := cell_here) (by rfl)) b_int) (x_int (i := 2)) o_mod) (fun x => c_one (x_int (i := 1)) (fun y => m_eq q_I (by decide) x y))))) trivial ?_ ?_ (fun s3 j3 => ?_)
    · refine Sim.asgL (by rfl) (fun parts3 => [.f (eTr tree_here), .f (eI cell_here), .f ((eL eTr) parts3), .f (eI s1.2), (frz1 false j1.1), (frz1 false j1.2)]) (Rf.to (by first | rfl | (simp only [R.assoc, bind_ok, bind_id, bind_id2]; done) | (simp only [R.assoc, bind_ok, bind_id, bind_id2]; rfl)) (x_revL (x_v (e := (eL eTr)) (a := s1.1) (by rfl)))) trivial (fun parts3 => set_frz (frz_c rfl (frz_c rfl (frz_c rfl (frz_c rfl (frz_c rfl (frz_c rfl rfl)))))) rfl) (fun parts3 => ?_)
      exact Sim.nil (j := (true, (frz1 false j1.1), (frz1 false j1.2))) rfl
    · exact Sim.nil (j := (false, j1.1, j1.2)) rfl
    exact Sim.ret (Rf.to (by first | rfl | (simp only [R.assoc, bind_ok, bind_id, bind_id2]; done) | (simp only [R.assoc, bind_ok, bind_id, bind_id2]; rfl)) (x_node (x_word (x_v (e := eTr) (a := tree_here) (by rfl))) (x_bi1 (x_v (e := (eL eTr)) (a := s3) (by exact rd_slb)) (b_tupL (e := eTr))))) trivial

theorem sm_law_is_normal : ∀ (k : Nat) (tree_here : Tr), Rf eB (callP K25.T 1000 k "_law_is_normal" [eTr tree_here]) (f_law_is_normal k tree_here)
  | 0, _ => trivial
  | k + 1, tree_here => by
    rw [f_law_is_normal]
    refine fn_sim (fn := ⟨1, 3, K25.ir__law_is_normal⟩) (by rfl) (by rfl) trivial ?_
    change Sim _ _ _ (evSs (callP K25.T 1000 k) 1000 K25.ir__law_is_normal [.f (eTr tree_here), .u, .u]) _
    unfold K25.ir__law_is_normal
    refine Sim.ite1 (by rfl) (Rf.to (by first | rfl | (simp only [R.assoc, bind_ok, bind_id, bind_id2]; done) | (simp only [R.assoc, bind_ok, bind_id, bind_id2]; rfl)) (x_and (x_bi1 (x_v (e := eTr) (a := tree_here) (by rfl)) b_isIntT) (x_not (x_bi1 (x_v (e := eTr) (a := tree_here) (by rfl)) b_isBoolTr)))) trivial ?_ ?_
    · exact Sim.ret (Rf.to (by first | rfl | (simp only [R.assoc, bind_ok, bind_id, bind_id2]; done) | (simp only [R.assoc, bind_ok, bind_id, bind_id2]; rfl)) x_bl) trivial
    refine Sim.ite1 (by rfl) (Rf.to (by first | rfl | (simp only [R.assoc, bind_ok, bind_id, bind_id2]; done) | (simp only [R.assoc, bind_ok, bind_id, bind_id2]; rfl)) (x_or (x_not (x_bi1 (x_v (e := eTr) (a := tree_here) (by rfl)) b_isTupTr)) (x_or (x_cmp (x_bi1 (x_v (e := eTr) (a := tree_here) (by rfl)) b_lenTr) (fun x => c_one (x_int (i := 2)) (fun y => m_ne q_I (by decide) x y))) (x_or (x_cmp (x_word (x_v (e := eTr) (a := tree_here) (by rfl))) (fun x => c_one (x_lst (es_cons x_wa (es_cons x_wr (es_nil (e := eW))))) (fun y => m_ninL q_W (by decide) x y))) (x_not (x_bi1 (x_parts (x_v (e := eTr) (a := tree_here) (by rfl))) b_isTupTt)))))) trivial ?_ ?_
    · exact Sim.ret (Rf.to (by first | rfl | (simp only [R.assoc, bind_ok, bind_id, bind_id2]; done) | (simp only [R.assoc, bind_ok, bind_id, bind_id2]; rfl)) x_bl) trivial
    refine Sim.ite1 (by rfl) (Rf.to (by first | rfl | (simp only [R.assoc, bind_ok, bind_id, bind_id2]; done) | (simp only [R.assoc, bind_ok, bind_id, bind_id2]; rfl)) (x_or (x_cmp (x_bi1 (x_parts (x_v (e := eTr) (a := tree_here) (by rfl))) (b_lenT (e := eTr))) (fun x => c_one (x_op (x_int (i := 2)) (x_bi1 (x_cmp (x_word (x_v (e := eTr) (a := tree_here) (by rfl))) (fun x => c_oneV (x_str (i := "row")) (m_eqWr x))) b_intB) o_add) (fun y => m_lt x y))) (x_cmp (x_lc (e1 := eTr) (e := eTr) (p := fun part => (((f_law_is_normal k part)).bind fun t14 => .ok (!t14))) (g := fun part => (.ok part)) (fun part => [.f (eTr tree_here), .u, .f (eTr part)]) (n_T (x_parts (x_v (e := eTr) (a := tree_here) (by rfl)))) (fun part => by rfl) (fun part => t_yes (Rf.to (by first | rfl | (simp only [R.assoc, bind_ok, bind_id, bind_id2]; done) | (simp only [R.assoc, bind_ok, bind_id, bind_id2]; rfl)) (x_not (x_call1 (f := "_law_is_normal") (x_v (e := eTr) (a := part) (by rfl)) (fun a0 => sm_law_is_normal  k a0))))) (fun part => (Rf.to (by first | rfl | (simp only [R.assoc, bind_ok, bind_id, bind_id2]; done) | (simp only [R.assoc, bind_ok, bind_id, bind_id2]; rfl)) (x_v (e := eTr) (a := part) (by rfl))))) (fun x => c_oneV (x_lst (es_nil (e := eTr))) (m_neNil x [] rfl))))) trivial ?_ ?_
    · exact Sim.ret (Rf.to (by first | rfl | (simp only [R.assoc, bind_ok, bind_id, bind_id2]; done) | (simp only [R.assoc, bind_ok, bind_id, bind_id2]; rfl)) x_bl) trivial
    refine Sim.asgO flI (by rfl) (fun leasts => [.f (eTr tree_here), .o ((eL eI) leasts), .u]) (Rf.to (by first | rfl | (simp only [R.assoc, bind_ok, bind_id, bind_id2]; done) | (simp only [R.assoc, bind_ok, bind_id, bind_id2]; rfl)) (x_lcm (e1 := eTr) (e := eI) (g := fun part1 => (((f_law_things k part1)).bind fun t19 => (minI t19))) (fun part1 => [.f (eTr tree_here), .u, .f (eTr part1)]) (n_T (x_parts (x_v (e := eTr) (a := tree_here) (by rfl)))) (fun part1 => by rfl) (fun part1 => (Rf.to (by first | rfl | (simp only [R.assoc, bind_ok, bind_id, bind_id2]; done) | (simp only [R.assoc, bind_ok, bind_id, bind_id2]; rfl)) (x_bi1 (x_call1 (f := "_law_things") (x_v (e := eTr) (a := part1) (by rfl)) (fun a0 => sm_law_things  k a0)) b_min1))))) trivial (fun leasts => by rfl) (fun leasts => ?_)
    refine Sim.ite1 (by rfl) (Rf.to (by first | rfl | (simp only [R.assoc, bind_ok, bind_id, bind_id2]; done) | (simp only [R.assoc, bind_ok, bind_id, bind_id2]; rfl)) (x_cmp (x_word (x_v (e := eTr) (a := tree_here) (by rfl))) (fun x => c_oneV (x_str (i := "any")) (m_eqWa x)))) trivial ?_ ?_
    · exact Sim.ret (Rf.to (by first | rfl | (simp only [R.assoc, bind_ok, bind_id, bind_id2]; done) | (simp only [R.assoc, bind_ok, bind_id, bind_id2]; rfl)) (x_cmp (x_v (e := (eL eI)) (a := leasts) (by rfl)) (fun x => c_one (x_bi1 (x_v (e := (eL eI)) (a := leasts) (by rfl)) b_sortL) (fun y => m_eq (q_L q_I) (by decide) x y)))) trivial
    exact Sim.ret (Rf.to (by first | rfl | (simp only [R.assoc, bind_ok, bind_id, bind_id2]; done) | (simp only [R.assoc, bind_ok, bind_id, bind_id2]; rfl)) (x_cmp (x_ix (x_v (e := (eL eI)) (a := leasts) (by rfl)) (x_int (i := 0)) (i_L (e := eI))) (fun x => c_one (x_ix (x_v (e := (eL eI)) (a := leasts) (by rfl)) (x_bi1 (x_int (i := 1)) b_neg) (i_L (e := eI))) (fun y => m_lt x y)))) trivial

theorem sm_law_orders : ∀ (k : Nat) (n : Int), Rf (eL (eT eI)) (callP K25.T 1000 k "_law_orders" [eI n]) (f_law_orders k n)
  | 0, _ => trivial
  | k + 1, n => by
    rw [f_law_orders]
    refine fn_sim (fn := ⟨1, 6, K25.ir__law_orders⟩) (by rfl) (by rfl) trivial ?_
    change Sim _ _ _ (evSs (callP K25.T 1000 k) 1000 K25.ir__law_orders [.f (eI n), .u, .u, .u, .u, .u]) _
    unfold K25.ir__law_orders
    refine Sim.asgO (flT flI) (by rfl) (fun orders_here => [.f (eI n), .o ((eL (eT eI)) orders_here), .u, .u, .u, .u]) (Rf.to (by first | rfl | (simp only [R.assoc, bind_ok, bind_id, bind_id2]; done) | (simp only [R.assoc, bind_ok, bind_id, bind_id2]; rfl)) (x_lst (es_cons (x_tup (es_nil (e := eI))) (es_nil (e := (eT eI)))))) trivial (fun orders_here => by rfl) (fun orders_here => ?_)
    refine Sim.for (mkL := fun (s2 : (List (List Int))) (j2 : Bool × Sl × Sl × Sl × Sl) => [.f (eI n), slb j2.1 ((eL (eT eI)) s2), j2.2.1, j2.2.2.1, j2.2.2.2.1, j2.2.2.2.2]) (env1 := fun thing s2 j2 => [.f (eI n), slb j2.1 ((eL (eT eI)) s2), .f (eI thing), j2.2.2.1, j2.2.2.2.1, j2.2.2.2.2]) (s0 := (orders_here)) (j0 := (false, .u, .u, .u, .u)) (e := eI) (Rf.to (by first | rfl | (simp only [R.assoc, bind_ok, bind_id, bind_id2]; done) | (simp only [R.assoc, bind_ok, bind_id, bind_id2]; rfl)) (n_r1 (x_v (e := eI) (a := n) (by rfl)))) trivial rfl (fun thing s2 j2 => by rfl) (fun thing s2 j2 => ?_) (fun s2 j2 => ?_)
    · refine Sim.asgO (flT flI) (by rfl) (fun longer => [.f (eI n), slb j2.1 ((eL (eT eI)) s2), .f (eI thing), .o ((eL (eT eI)) longer), j2.2.2.2.1, j2.2.2.2.2]) (Rf.to (by first | rfl | (simp only [R.assoc, bind_ok, bind_id, bind_id2]; done) | (simp only [R.assoc, bind_ok, bind_id, bind_id2]; rfl)) (x_lst (es_nil (e := (eT eI))))) trivial (fun longer => by rfl) (fun longer => ?_)
      refine Sim.for (mkL := fun (s4 : (List (List Int))) (j4 : Sl × Sl) => [.f (eI n), .f ((eL (eT eI)) s2), .f (eI thing), .o ((eL (eT eI)) s4), j4.1, j4.2]) (env1 := fun order_here s4 j4 => [.f (eI n), .f ((eL (eT eI)) s2), .f (eI thing), .o ((eL (eT eI)) s4), .f ((eT eI) order_here), j4.2]) (s0 := (longer)) (j0 := ((frz1 false j2.2.2.2.1), (frz1 false j2.2.2.2.2))) (e := (eT eI)) (Rf.to (by first | rfl | (simp only [R.assoc, bind_ok, bind_id, bind_id2]; done) | (simp only [R.assoc, bind_ok, bind_id, bind_id2]; rfl)) (n_L (x_v (e := (eL (eT eI))) (a := s2) (by exact rd_slb)))) trivial (frz_c rfl (frz_c frz1_et (frz_c rfl (frz_c rfl (frz_c rfl (frz_c rfl rfl)))))) (fun order_here s4 j4 => by rfl) (fun order_here s4 j4 => ?_) (fun s4 j4 => ?_)
      · refine Sim.for (mkL := fun (s6 : (List (List Int))) (j6 : Sl) => [.f (eI n), .f ((eL (eT eI)) s2), .f (eI thing), .o ((eL (eT eI)) s6), .f ((eT eI) order_here), j6]) (env1 := fun at_ s6 j6 => [.f (eI n), .f ((eL (eT eI)) s2), .f (eI thing), .o ((eL (eT eI)) s6), .f ((eT eI) order_here), .f (eI at_)]) (s0 := (s4)) (j0 := (j4.2)) (e := eI) (Rf.to (by first | rfl | (simp only [R.assoc, bind_ok, bind_id, bind_id2]; done) | (simp only [R.assoc, bind_ok, bind_id, bind_id2]; rfl)) (n_r1 (x_op (x_bi1 (x_v (e := (eT eI)) (a := order_here) (by rfl)) (b_lenT (e := eI))) (x_int (i := 1)) o_add))) trivial rfl (fun at_ s6 j6 => by rfl) (fun at_ s6 j6 => ?_) (fun s6 j6 => ?_)
        · refine Sim.app (flT flI) (fun longer1 => [.f (eI n), .f ((eL (eT eI)) s2), .f (eI thing), .o ((eL (eT eI)) longer1), .f ((eT eI) order_here), .f (eI at_)]) (Rf.to (by first | rfl | (simp only [R.assoc, bind_ok, bind_id, bind_id2]; done) | (simp only [R.assoc, bind_ok, bind_id, bind_id2]; rfl)) (x_op (x_op (x_sl (x_v (e := (eT eI)) (a := order_here) (by rfl)) o_no (o_yes (x_v (e := eI) (a := at_) (by rfl))) (s_T (e := eI))) (x_tup (es_cons (x_v (e := eI) (a := thing) (by rfl)) (es_nil (e := eI)))) (o_catT (e := eI))) (x_sl (x_v (e := (eT eI)) (a := order_here) (by rfl)) (o_yes (x_v (e := eI) (a := at_) (by rfl))) o_no (s_T (e := eI))) (o_catT (e := eI)))) trivial (by rfl) (fun longer1 => by rfl) (fun longer1 => ?_)
          exact Sim.nil (j := (.f (eI at_))) rfl
        exact Sim.nil (j := (.f ((eT eI) order_here), j6)) rfl
      refine Sim.asgL (by rfl) (fun orders_here1 => [.f (eI n), .f ((eL (eT eI)) orders_here1), .f (eI thing), .f ((eL (eT eI)) s4), (frz1 false j4.1), (frz1 false j4.2)]) (Rf.to (by first | rfl | (simp only [R.assoc, bind_ok, bind_id, bind_id2]; done) | (simp only [R.assoc, bind_ok, bind_id, bind_id2]; rfl)) (x_v (e := (eL (eT eI))) (a := s4) (by rfl))) trivial (fun orders_here1 => set_frz (frz_c rfl (frz_c rfl (frz_c rfl (frz_c rfl (frz_c rfl (frz_c rfl rfl)))))) rfl) (fun orders_here1 => ?_)
      exact Sim.nil (j := (true, .f (eI thing), .f ((eL (eT eI)) s4), (frz1 false j4.1), (frz1 false j4.2))) rfl
    exact Sim.ret (Rf.to (by first | rfl | (simp only [R.assoc, bind_ok, bind_id, bind_id2]; done) | (simp only [R.assoc, bind_ok, bind_id, bind_id2]; rfl)) (x_v (e := (eL (eT eI))) (a := s2) (by exact rd_slb))) trivial

theorem sm_law_drawn_order : ∀ (k : Nat) (tree_here : Tr) (cell_here : Int), Rf (eT eI) (callP K25.T 1000 k "_law_drawn_order" [eTr tree_here, eI cell_here]) (f_law_drawn_order k tree_here cell_here)
  | 0, _, _ => trivial
  | k + 1, tree_here, cell_here => by
    rw [f_law_drawn_order]
    refine fn_sim (fn := ⟨2, 4, K25.ir__law_drawn_order⟩) (by rfl) (by rfl) trivial ?_
    change Sim _ _ _ (evSs (callP K25.T 1000 k) 1000 K25.ir__law_drawn_order [.f (eTr tree_here), .f (eI cell_here), .u, .u]) _
    unfold K25.ir__law_drawn_order
    refine Sim.ite1 (by rfl) (Rf.to (by first | rfl | (simp only [R.assoc, bind_ok, bind_id, bind_id2]; done) | (simp only [R.assoc, bind_ok, bind_id, bind_id2]; rfl)) (x_bi1 (x_v (e := eTr) (a := tree_here) (by rfl)) b_isIntT)) trivial ?_ ?_
    · exact Sim.ret (Rf.to (by first | rfl | (simp only [R.assoc, bind_ok, bind_id, bind_id2]; done) | (simp only [R.assoc, bind_ok, bind_id, bind_id2]; rfl)) (x_tup (es_cons (x_cop (e' := eI) (x_v (e := eTr) (a := tree_here) (by rfl)) cp_thing) (es_nil (e := eI))))) trivial
    refine Sim.asgF (flT flI) (fun order_here => [.f (eTr tree_here), .f (eI cell_here), .f ((eT eI) order_here), .u]) (Rf.to (by first | rfl | (simp only [R.assoc, bind_ok, bind_id, bind_id2]; done) | (simp only [R.assoc, bind_ok, bind_id, bind_id2]; rfl)) (x_tup (es_nil (e := eI)))) trivial (fun order_here => by rfl) (fun order_here => ?_)
    refine Sim.for (mkL := fun (s1 : (List Int)) (j1 : Sl) => [.f (eTr tree_here), .f (eI cell_here), .f ((eT eI) s1), j1]) (env1 := fun part s1 j1 => [.f (eTr tree_here), .f (eI cell_here), .f ((eT eI) s1), .f (eTr part)]) (s0 := (order_here)) (j0 := (.u)) (e := eTr) (Rf.to (by first | rfl | (simp only [R.assoc, bind_ok, bind_id, bind_id2]; done) | (simp only [R.assoc, bind_ok, bind_id, bind_id2]; rfl)) (n_T (x_parts (x_call2 (f := "_law_shuffled") (x_v (e := eTr) (a := tree_here) (by rfl)) (x_v (e := eI) (a := cell_here) (by rfl)) (fun a0 a1 => sm_law_shuffled  k a0 a1))))) trivial rfl (fun part s1 j1 => by rfl) (fun part s1 j1 => ?_) (fun s1 j1 => ?_)
    · refine Sim.asgF (flT flI) (fun order_here1 => [.f (eTr tree_here), .f (eI cell_here), .f ((eT eI) order_here1), .f (eTr part)]) (Rf.to (by first | rfl | (simp only [R.assoc, bind_ok, bind_id, bind_id2]; done) | (simp only [R.assoc, bind_ok, bind_id, bind_id2]; rfl)) (x_op (x_v (e := (eT eI)) (a := s1) (by rfl)) (x_call2 (f := "_law_drawn_order") (x_v (e := eTr) (a := part) (by rfl)) (x_op (x_op (x_v (e := eI) (a := cell_here) (by rfl)) (x_int (i := 3)) o_div) (x_int (i := 11)) o_add) (fun a0 a1 => sm_law_drawn_order  k a0 a1)) (o_catT (e := eI)))) trivial (fun order_here1 => by rfl) (fun order_here1 => ?_)
      exact Sim.nil (j := (.f (eTr part))) rfl
    exact Sim.ret (Rf.to (by first | rfl | (simp only [R.assoc, bind_ok, bind_id, bind_id2]; done) | (simp only [R.assoc, bind_ok, bind_id, bind_id2]; rfl)) (x_v (e := (eT eI)) (a := s1) (by rfl))) trivial

theorem sm_law : ∀ (k : Nat) (script : (List Int)), Rf eB (callP K25.T 1000 k "law" [(eL eI) script]) (f_law k script)
  | 0, _ => trivial
  | k + 1, script => by
    rw [f_law]
    refine fn_sim (fn := ⟨1, 12, K25.ir_law⟩) (by rfl) (by rfl) trivial ?_
    change Sim _ _ _ (evSs (callP K25.T 1000 k) 1000 K25.ir_law [.f ((eL eI) script), .u, .u, .u, .u, .u, .u, .u, .u, .u, .u, .u]) _
    unfold K25.ir_law
    refine Sim.asgL (by rfl) (fun d => [.f ((eL eI) script), .f ((eL eI) d), .u, .u, .u, .u, .u, .u, .u, .u, .u, .u]) (Rf.to (by first | rfl | (simp only [R.assoc, bind_ok, bind_id, bind_id2]; done) | (simp only [R.assoc, bind_ok, bind_id, bind_id2]; rfl)) (x_call2 (f := "_law_digits") (x_call1 (f := "_law_rich") (x_call2 (f := "_law_cell") (x_v (e := (eL eI)) (a := script) (by rfl)) (x_int (i := 0)) (fun a0 a1 => sm_law_cell  k a0 a1)) (fun a0 => sm_law_rich  k a0)) (x_lst (es_cons (x_int (i := 9)) (es_cons (x_int (i := 2)) (es_nil (e := eI))))) (fun a0 a1 => sm_law_digits  k a0 a1))) trivial (fun d => set_frz rfl rfl) (fun d => ?_)
    refine Sim.asgF flI (fun n => [.f ((eL eI) script), .f ((eL eI) d), .f (eI n), .u, .u, .u, .u, .u, .u, .u, .u, .u]) (Rf.to (by first | rfl | (simp only [R.assoc, bind_ok, bind_id, bind_id2]; done) | (simp only [R.assoc, bind_ok, bind_id, bind_id2]; rfl)) (x_op (x_int (i := 1)) (x_ix (x_lst (es_cons (x_ix (x_v (e := (eL eI)) (a := d) (by rfl)) (x_int (i := 0)) (i_L (e := eI))) (es_cons (x_op (x_bi1 (x_ix (x_v (e := (eL eI)) (a := d) (by rfl)) (x_int (i := 0)) (i_L (e := eI))) b_int) (x_int (i := 5)) o_mod) (es_nil (e := eI))))) (x_ix (x_v (e := (eL eI)) (a := d) (by rfl)) (x_int (i := 1)) (i_L (e := eI))) (i_L (e := eI))) o_add)) trivial (fun n => by rfl) (fun n => ?_)
    refine Sim.asgF flTr (fun tree_here => [.f ((eL eI) script), .f ((eL eI) d), .f (eI n), .f (eTr tree_here), .u, .u, .u, .u, .u, .u, .u, .u]) (Rf.to (by first | rfl | (simp only [R.assoc, bind_ok, bind_id, bind_id2]; done) | (simp only [R.assoc, bind_ok, bind_id, bind_id2]; rfl)) (x_call2 (f := "_law_tree") (x_call2 (f := "_law_cell") (x_v (e := (eL eI)) (a := script) (by rfl)) (x_int (i := 1)) (fun a0 a1 => sm_law_cell  k a0 a1)) (x_v (e := eI) (a := n) (by rfl)) (fun a0 a1 => sm_law_tree  k a0 a1))) trivial (fun tree_here => by rfl) (fun tree_here => ?_)
    refine Sim.asgF flB (fun raised => [.f ((eL eI) script), .f ((eL eI) d), .f (eI n), .f (eTr tree_here), .f (eB raised), .u, .u, .u, .u, .u, .u, .u]) (Rf.to (by first | rfl | (simp only [R.assoc, bind_ok, bind_id, bind_id2]; done) | (simp only [R.assoc, bind_ok, bind_id, bind_id2]; rfl)) x_bl) trivial (fun raised => by rfl) (fun raised => ?_)
    refine Sim.tryJ (mk' := fun (s : Bool) (j : Unit) => [.f ((eL eI) script), .f ((eL eI) d), .f (eI n), .f (eTr tree_here), .f (eB s), .u, .u, .u, .u, .u, .u, .u]) (mkX := fun (jx : Unit) => [.f ((eL eI) script), .f ((eL eI) d), .f (eI n), .f (eTr tree_here), .f (eB raised), .u, .u, .u, .u, .u, .u, .u]) (fun _ => trivial) ?_ (fun ex jx => ?_) (fun s j => ?_)
    · refine Sim.exp (enc := eTr) (Rf.to (by first | rfl | (simp only [R.assoc, bind_ok, bind_id, bind_id2]; done) | (simp only [R.assoc, bind_ok, bind_id, bind_id2]; rfl)) (x_call2 (f := "pruned") (x_v (e := eTr) (a := tree_here) (by rfl)) (x_tup (es_nil (e := eI))) (fun a0 a1 => sm_pruned  k a0 a1))) ⟨(), rfl⟩ (fun _ => ?_)
      exact Sim.nil (j := ()) rfl
    · refine Sim.asgF flB (fun raised1 => [.f ((eL eI) script), .f ((eL eI) d), .f (eI n), .f (eTr tree_here), .f (eB raised1), .u, .u, .u, .u, .u, .u, .u]) (Rf.to (by first | rfl | (simp only [R.assoc, bind_ok, bind_id, bind_id2]; done) | (simp only [R.assoc, bind_ok, bind_id, bind_id2]; rfl)) x_bl) trivial (fun raised1 => by rfl) (fun raised1 => ?_)
      exact Sim.nil (j := ()) rfl
    refine Sim.ite1 (by rfl) (Rf.to (by first | rfl | (simp only [R.assoc, bind_ok, bind_id, bind_id2]; done) | (simp only [R.assoc, bind_ok, bind_id, bind_id2]; rfl)) (x_or (x_not (x_v (e := eB) (a := s) (by rfl))) (x_cmp (x_call2 (f := "pruned") (x_v (e := eTr) (a := tree_here) (by rfl)) (x_bi1 (x_lci (e := eI) (fun thing => [.f ((eL eI) script), .f ((eL eI) d), .f (eI n), .f (eTr tree_here), .f (eB s), .u, .u, .u, .u, .u, .u, .f (eI thing)]) (n_r1 (x_v (e := eI) (a := n) (by rfl))) (fun thing => by rfl) (fun thing => (Rf.to (by first | rfl | (simp only [R.assoc, bind_ok, bind_id, bind_id2]; done) | (simp only [R.assoc, bind_ok, bind_id, bind_id2]; rfl)) (x_v (e := eI) (a := thing) (by rfl))))) (b_tupL (e := eI))) (fun a0 a1 => sm_pruned  k a0 a1)) (fun x => c_one (x_call1 (f := "normal") (x_v (e := eTr) (a := tree_here) (by rfl)) (fun a0 => sm_normal  k a0)) (fun y => m_neTr x y))))) trivial ?_ ?_
    · exact Sim.ret (Rf.to (by first | rfl | (simp only [R.assoc, bind_ok, bind_id, bind_id2]; done) | (simp only [R.assoc, bind_ok, bind_id, bind_id2]; rfl)) x_bl) trivial
    refine Sim.asgF (flT flI) (fun things_here => [.f ((eL eI) script), .f ((eL eI) d), .f (eI n), .f (eTr tree_here), .f (eB s), .f ((eT eI) things_here), .u, .u, .u, .u, .u, .u]) (Rf.to (by first | rfl | (simp only [R.assoc, bind_ok, bind_id, bind_id2]; done) | (simp only [R.assoc, bind_ok, bind_id, bind_id2]; rfl)) (x_call2 (f := "_law_set") (x_call2 (f := "_law_cell") (x_v (e := (eL eI)) (a := script) (by rfl)) (x_int (i := 2)) (fun a0 a1 => sm_law_cell  k a0 a1)) (x_v (e := eI) (a := n) (by rfl)) (fun a0 a1 => sm_law_set  k a0 a1))) trivial (fun things_here => by rfl) (fun things_here => ?_)
    refine Sim.iteJ (mk' := fun (s1 : (List Int)) (j1 : Unit) => [.f ((eL eI) script), .f ((eL eI) d), .f (eI n), .f (eTr tree_here), .f (eB s), .f ((eT eI) s1), .u, .u, .u, .u, .u, .u]) (Rf.to (by first | rfl | (simp only [R.assoc, bind_ok, bind_id, bind_id2]; done) | (simp only [R.assoc, bind_ok, bind_id, bind_id2]; rfl)) (x_cmp (x_v (e := (eT eI)) (a := things_here) (by rfl)) (fun x => c_one (x_tup (es_nil (e := eI))) (fun y => m_eq (q_T q_I) (by decide) x y)))) trivial ?_ ?_ (fun s1 j1 => ?_)
    · refine Sim.asgF (flT flI) (fun things_here1 => [.f ((eL eI) script), .f ((eL eI) d), .f (eI n), .f (eTr tree_here), .f (eB s), .f ((eT eI) things_here1), .u, .u, .u, .u, .u, .u]) (Rf.to (by first | rfl | (simp only [R.assoc, bind_ok, bind_id, bind_id2]; done) | (simp only [R.assoc, bind_ok, bind_id, bind_id2]; rfl)) (x_tup (es_cons (x_op (x_bi1 (x_call1 (f := "_law_rich") (x_call2 (f := "_law_cell") (x_v (e := (eL eI)) (a := script) (by rfl)) (x_int (i := 2)) (fun a0 a1 => sm_law_cell  k a0 a1)) (fun a0 => sm_law_rich  k a0)) b_int) (x_v (e := eI) (a := n) (by rfl)) o_mod) (es_nil (e := eI))))) trivial (fun things_here1 => by rfl) (fun things_here1 => ?_)
      exact Sim.nil (j := ()) rfl
    · exact Sim.nil (j := ()) rfl
    refine Sim.asgF flTr (fun told_here => [.f ((eL eI) script), .f ((eL eI) d), .f (eI n), .f (eTr tree_here), .f (eB s), .f ((eT eI) s1), .f (eTr told_here), .u, .u, .u, .u, .u]) (Rf.to (by first | rfl | (simp only [R.assoc, bind_ok, bind_id, bind_id2]; done) | (simp only [R.assoc, bind_ok, bind_id, bind_id2]; rfl)) (x_call2 (f := "pruned") (x_v (e := eTr) (a := tree_here) (by rfl)) (x_v (e := (eT eI)) (a := s1) (by rfl)) (fun a0 a1 => sm_pruned  k a0 a1))) trivial (fun told_here => by rfl) (fun told_here => ?_)
    refine Sim.ite1 (by rfl) (Rf.to (by first | rfl | (simp only [R.assoc, bind_ok, bind_id, bind_id2]; done) | (simp only [R.assoc, bind_ok, bind_id, bind_id2]; rfl)) (x_or (x_not (x_call1 (f := "_law_is_normal") (x_v (e := eTr) (a := told_here) (by rfl)) (fun a0 => sm_law_is_normal  k a0))) (x_cmp (x_bi1 (x_call1 (f := "_law_things") (x_v (e := eTr) (a := told_here) (by rfl)) (fun a0 => sm_law_things  k a0)) b_sortL) (fun x => c_one (x_bi1 (x_v (e := (eT eI)) (a := s1) (by rfl)) (b_lstT (e := eI))) (fun y => m_ne (q_L q_I) (by decide) x y))))) trivial ?_ ?_
    · exact Sim.ret (Rf.to (by first | rfl | (simp only [R.assoc, bind_ok, bind_id, bind_id2]; done) | (simp only [R.assoc, bind_ok, bind_id, bind_id2]; rfl)) x_bl) trivial
    refine Sim.for (mkL := fun (s3 : Unit) (j3 : Sl × Sl) => [.f ((eL eI) script), .f ((eL eI) d), .f (eI n), .f (eTr tree_here), .f (eB s), .f ((eT eI) s1), .f (eTr told_here), j3.1, .u, j3.2, .u, .u]) (env1 := fun k_ s3 j3 => [.f ((eL eI) script), .f ((eL eI) d), .f (eI n), .f (eTr tree_here), .f (eB s), .f ((eT eI) s1), .f (eTr told_here), .f (eI k_), .u, j3.2, .u, .u]) (s0 := ()) (j0 := (.u, .u)) (e := eI) (Rf.to (by first | rfl | (simp only [R.assoc, bind_ok, bind_id, bind_id2]; done) | (simp only [R.assoc, bind_ok, bind_id, bind_id2]; rfl)) (n_r1 (x_int (i := 6)))) trivial rfl (fun k_ s3 j3 => by rfl) (fun k_ s3 j3 => ?_) (fun s3 j3 => ?_)
    · refine Sim.asgF (flT flI) (fun order_here => [.f ((eL eI) script), .f ((eL eI) d), .f (eI n), .f (eTr tree_here), .f (eB s), .f ((eT eI) s1), .f (eTr told_here), .f (eI k_), .u, .f ((eT eI) order_here), .u, .u]) (Rf.to (by first | rfl | (simp only [R.assoc, bind_ok, bind_id, bind_id2]; done) | (simp only [R.assoc, bind_ok, bind_id, bind_id2]; rfl)) (x_call2 (f := "_law_drawn_order") (x_v (e := eTr) (a := tree_here) (by rfl)) (x_call1 (f := "_law_rich") (x_op (x_call2 (f := "_law_cell") (x_v (e := (eL eI)) (a := script) (by rfl)) (x_int (i := 3)) (fun a0 a1 => sm_law_cell  k a0 a1)) (x_v (e := eI) (a := k_) (by rfl)) o_add) (fun a0 => sm_law_rich  k a0)) (fun a0 a1 => sm_law_drawn_order  k a0 a1))) trivial (fun order_here => by rfl) (fun order_here => ?_)
      refine Sim.ite1 (by rfl) (Rf.to (by first | rfl | (simp only [R.assoc, bind_ok, bind_id, bind_id2]; done) | (simp only [R.assoc, bind_ok, bind_id, bind_id2]; rfl)) (x_not (x_call2 (f := "_law_told") (x_v (e := eTr) (a := told_here) (by rfl)) (x_bi1 (x_lcf (e := eI) (p := fun thing1 => (memB thing1 s1)) (fun thing1 => [.f ((eL eI) script), .f ((eL eI) d), .f (eI n), .f (eTr tree_here), .f (eB s), .f ((eT eI) s1), .f (eTr told_here), .f (eI k_), .u, .f ((eT eI) order_here), .u, .f (eI thing1)]) (n_T (x_v (e := (eT eI)) (a := order_here) (by rfl))) (fun thing1 => by rfl) (fun thing1 => t_yes (Rf.to (by first | rfl | (simp only [R.assoc, bind_ok, bind_id, bind_id2]; done) | (simp only [R.assoc, bind_ok, bind_id, bind_id2]; rfl)) (x_cmp (x_v (e := eI) (a := thing1) (by rfl)) (fun x => c_one (x_v (e := (eT eI)) (a := s1) (by rfl)) (fun y => m_inT q_I (by decide) x y))))) (fun thing1 => (Rf.to (by first | rfl | (simp only [R.assoc, bind_ok, bind_id, bind_id2]; done) | (simp only [R.assoc, bind_ok, bind_id, bind_id2]; rfl)) (x_v (e := eI) (a := thing1) (by rfl))))) (b_tupL (e := eI))) (fun a0 a1 => sm_law_told  k a0 a1)))) trivial ?_ ?_
      · exact Sim.ret (Rf.to (by first | rfl | (simp only [R.assoc, bind_ok, bind_id, bind_id2]; done) | (simp only [R.assoc, bind_ok, bind_id, bind_id2]; rfl)) x_bl) trivial
      exact Sim.nil (j := (.f (eI k_), .f ((eT eI) order_here))) rfl
    refine Sim.ite1 (by rfl) (Rf.to (by first | rfl | (simp only [R.assoc, bind_ok, bind_id, bind_id2]; done) | (simp only [R.assoc, bind_ok, bind_id, bind_id2]; rfl)) (x_cmp (x_v (e := eI) (a := n) (by rfl)) (fun x => c_one (x_int (i := 5)) (fun y => m_gt x y)))) trivial ?_ ?_
    · exact Sim.ret (Rf.to (by first | rfl | (simp only [R.assoc, bind_ok, bind_id, bind_id2]; done) | (simp only [R.assoc, bind_ok, bind_id, bind_id2]; rfl)) x_bl) trivial
    refine Sim.asgO (flT flI) (by rfl) (fun left => [.f ((eL eI) script), .f ((eL eI) d), .f (eI n), .f (eTr tree_here), .f (eB s), .f ((eT eI) s1), .f (eTr told_here), j3.1, .o ((eL (eT eI)) left), j3.2, .u, .u]) (Rf.to (by first | rfl | (simp only [R.assoc, bind_ok, bind_id, bind_id2]; done) | (simp only [R.assoc, bind_ok, bind_id, bind_id2]; rfl)) (x_lst (es_nil (e := (eT eI))))) trivial (fun left => by rfl) (fun left => ?_)
    refine Sim.for (mkL := fun (s5 : (List (List Int))) (j5 : Sl) => [.f ((eL eI) script), .f ((eL eI) d), .f (eI n), .f (eTr tree_here), .f (eB s), .f ((eT eI) s1), .f (eTr told_here), (frz1 false j3.1), .o ((eL (eT eI)) s5), j5, .u, .u]) (env1 := fun order_here1 s5 j5 => [.f ((eL eI) script), .f ((eL eI) d), .f (eI n), .f (eTr tree_here), .f (eB s), .f ((eT eI) s1), .f (eTr told_here), (frz1 false j3.1), .o ((eL (eT eI)) s5), .f ((eT eI) order_here1), .u, .u]) (s0 := (left)) (j0 := ((frz1 false j3.2))) (e := (eT eI)) (Rf.to (by first | rfl | (simp only [R.assoc, bind_ok, bind_id, bind_id2]; done) | (simp only [R.assoc, bind_ok, bind_id, bind_id2]; rfl)) (n_L (x_call1 (f := "_law_orders") (x_v (e := eI) (a := n) (by rfl)) (fun a0 => sm_law_orders  k a0)))) trivial (frz_c rfl (frz_c rfl (frz_c rfl (frz_c rfl (frz_c rfl (frz_c rfl (frz_c rfl (frz_c rfl (frz_c rfl (frz_c rfl (frz_c rfl (frz_c rfl rfl)))))))))))) (fun order_here1 s5 j5 => by rfl) (fun order_here1 s5 j5 => ?_) (fun s5 j5 => ?_)
    · refine Sim.iteJ (mk' := fun (s6 : (List (List Int))) (j6 : Unit) => [.f ((eL eI) script), .f ((eL eI) d), .f (eI n), .f (eTr tree_here), .f (eB s), .f ((eT eI) s1), .f (eTr told_here), (frz1 false j3.1), .o ((eL (eT eI)) s6), .f ((eT eI) order_here1), .u, .u]) (Rf.to (by first | rfl | (simp only [R.assoc, bind_ok, bind_id, bind_id2]; done) | (simp only [R.assoc, bind_ok, bind_id, bind_id2]; rfl)) (x_call2 (f := "_law_told") (x_v (e := eTr) (a := tree_here) (by rfl)) (x_v (e := (eT eI)) (a := order_here1) (by rfl)) (fun a0 a1 => sm_law_told  k a0 a1))) trivial ?_ ?_ (fun s6 j6 => ?_)
      · refine Sim.app (flT flI) (fun left1 => [.f ((eL eI) script), .f ((eL eI) d), .f (eI n), .f (eTr tree_here), .f (eB s), .f ((eT eI) s1), .f (eTr told_here), (frz1 false j3.1), .o ((eL (eT eI)) left1), .f ((eT eI) order_here1), .u, .u]) (Rf.to (by first | rfl | (simp only [R.assoc, bind_ok, bind_id, bind_id2]; done) | (simp only [R.assoc, bind_ok, bind_id, bind_id2]; rfl)) (x_bi1 (x_lcf (e := eI) (p := fun thing2 => (memB thing2 s1)) (fun thing2 => [.f ((eL eI) script), .f ((eL eI) d), .f (eI n), .f (eTr tree_here), .f (eB s), .f ((eT eI) s1), .f (eTr told_here), (frz1 false j3.1), .o ((eL (eT eI)) s5), .f ((eT eI) order_here1), .u, .f (eI thing2)]) (n_T (x_v (e := (eT eI)) (a := order_here1) (by rfl))) (fun thing2 => by rfl) (fun thing2 => t_yes (Rf.to (by first | rfl | (simp only [R.assoc, bind_ok, bind_id, bind_id2]; done) | (simp only [R.assoc, bind_ok, bind_id, bind_id2]; rfl)) (x_cmp (x_v (e := eI) (a := thing2) (by rfl)) (fun x => c_one (x_v (e := (eT eI)) (a := s1) (by rfl)) (fun y => m_inT q_I (by decide) x y))))) (fun thing2 => (Rf.to (by first | rfl | (simp only [R.assoc, bind_ok, bind_id, bind_id2]; done) | (simp only [R.assoc, bind_ok, bind_id, bind_id2]; rfl)) (x_v (e := eI) (a := thing2) (by rfl))))) (b_tupL (e := eI)))) trivial (by rfl) (fun left1 => by rfl) (fun left1 => ?_)
        exact Sim.nil (j := ()) rfl
      · exact Sim.nil (j := ()) rfl
      exact Sim.nil (j := (.f ((eT eI) order_here1))) rfl
    refine Sim.for (mkL := fun (s8 : Unit) (j8 : Sl × Sl) => [.f ((eL eI) script), .f ((eL eI) d), .f (eI n), .f (eTr tree_here), .f (eB s), .f ((eT eI) s1), .f (eTr told_here), (frz1 false (frz1 false j3.1)), .o ((eL (eT eI)) s5), j8.1, j8.2, .u]) (env1 := fun order_here2 s8 j8 => [.f ((eL eI) script), .f ((eL eI) d), .f (eI n), .f (eTr tree_here), .f (eB s), .f ((eT eI) s1), .f (eTr told_here), (frz1 false (frz1 false j3.1)), .o ((eL (eT eI)) s5), .f ((eT eI) order_here2), j8.2, .u]) (s0 := ()) (j0 := ((frz1 false j5), .u)) (e := (eT eI)) (Rf.to (by first | rfl | (simp only [R.assoc, bind_ok, bind_id, bind_id2]; done) | (simp only [R.assoc, bind_ok, bind_id, bind_id2]; rfl)) (n_L (x_call1 (f := "_law_orders") (x_bi1 (x_v (e := (eT eI)) (a := s1) (by rfl)) (b_lenT (e := eI))) (fun a0 => sm_law_orders  k a0)))) trivial (frz_c rfl (frz_c rfl (frz_c rfl (frz_c rfl (frz_c rfl (frz_c rfl (frz_c rfl (frz_c rfl (frz_c rfl (frz_c rfl (frz_c rfl (frz_c rfl rfl)))))))))))) (fun order_here2 s8 j8 => by rfl) (fun order_here2 s8 j8 => ?_) (fun s8 j8 => ?_)
    · refine Sim.asgF (flT flI) (fun named => [.f ((eL eI) script), .f ((eL eI) d), .f (eI n), .f (eTr tree_here), .f (eB s), .f ((eT eI) s1), .f (eTr told_here), (frz1 false (frz1 false j3.1)), .o ((eL (eT eI)) s5), .f ((eT eI) order_here2), .f ((eT eI) named), .u]) (Rf.to (by first | rfl | (simp only [R.assoc, bind_ok, bind_id, bind_id2]; done) | (simp only [R.assoc, bind_ok, bind_id, bind_id2]; rfl)) (x_bi1 (x_lcm (e1 := eI) (e := eI) (g := fun k_1 => (atL s1 k_1)) (fun k_1 => [.f ((eL eI) script), .f ((eL eI) d), .f (eI n), .f (eTr tree_here), .f (eB s), .f ((eT eI) s1), .f (eTr told_here), .f (eI k_1), .o ((eL (eT eI)) s5), .f ((eT eI) order_here2), j8.2, .u]) (n_T (x_v (e := (eT eI)) (a := order_here2) (by rfl))) (fun k_1 => by rfl) (fun k_1 => (Rf.to (by first | rfl | (simp only [R.assoc, bind_ok, bind_id, bind_id2]; done) | (simp only [R.assoc, bind_ok, bind_id, bind_id2]; rfl)) (x_ix (x_v (e := (eT eI)) (a := s1) (by rfl)) (x_v (e := eI) (a := k_1) (by rfl)) (i_T (e := eI)))))) (b_tupL (e := eI)))) trivial (fun named => by rfl) (fun named => ?_)
      refine Sim.ite1 (by rfl) (Rf.to (by first | rfl | (simp only [R.assoc, bind_ok, bind_id, bind_id2]; done) | (simp only [R.assoc, bind_ok, bind_id, bind_id2]; rfl)) (x_cmp (x_call2 (f := "_law_told") (x_v (e := eTr) (a := told_here) (by rfl)) (x_v (e := (eT eI)) (a := named) (by rfl)) (fun a0 a1 => sm_law_told  k a0 a1)) (fun x => c_one (x_cmp (x_v (e := (eT eI)) (a := named) (by rfl)) (fun x => c_one (x_v (e := (eL (eT eI))) (a := s5) (by rfl)) (fun y => m_inL (q_T q_I) (by decide) x y))) (fun y => m_ne q_B (by decide) x y)))) trivial ?_ ?_
      · exact Sim.ret (Rf.to (by first | rfl | (simp only [R.assoc, bind_ok, bind_id, bind_id2]; done) | (simp only [R.assoc, bind_ok, bind_id, bind_id2]; rfl)) x_bl) trivial
      exact Sim.nil (j := (.f ((eT eI) order_here2), .f ((eT eI) named))) rfl
    exact Sim.ret (Rf.to (by first | rfl | (simp only [R.assoc, bind_ok, bind_id, bind_id2]; done) | (simp only [R.assoc, bind_ok, bind_id, bind_id2]; rfl)) x_bl) trivial


end K25

set_option Elab.async false
set_option linter.all false
set_option maxRecDepth 100000
namespace K25
open PySem PC
theorem getD_at2 {α : Type} {l : List α} {i : Nat} {d : α} (h : i < l.length) : l.getD i d = l[i] := by
  rw [List.getD_eq_getElem?_getD, List.getElem?_eq_getElem h]; rfl
open Classical in
theorem law_true (ns : List Int) : f_law 201 ns = .ok true := by
  rw [f_law]
  have c0 := cell_ok (k := 200) (ns := ns) (i := 0) (by decide) (by decide)
  have c1 := cell_ok (k := 200) (ns := ns) (i := 1) (by decide) (by decide)
  have c2 := cell_ok (k := 200) (ns := ns) (i := 2) (by decide) (by decide)
  have c3 := cell_ok (k := 200) (ns := ns) (i := 3) (by decide) (by decide)
  generalize ns.getD (Int.toNat 0) 0 = x0 at c0
  generalize ns.getD (Int.toNat 1) 0 = x1 at c1
  generalize ns.getD (Int.toNat 2) 0 = x2 at c2
  generalize ns.getD (Int.toNat 3) 0 = x3 at c3
  have r0 : ∀ c, f_law_rich 200 c = .ok (rich c) := fun c => rich_ok (by decide)
  have dg := digits_ok (k := 200) (c := rich x0) (l := [9, 2]) (by decide) (by decide) (by decide)
  obtain ⟨d0, e0, a0, b0⟩ := digits_at (l := [9, 2]) (c := rich x0) (i := 0) (s := 9) rfl (by decide)
  obtain ⟨d1, e1, a1, b1⟩ := digits_at (l := [9, 2]) (c := rich x0) (i := 1) (s := 2) rfl (by decide)
  have e0 : atL (digits (rich x0) [9, 2]) 0 = .ok d0 := e0
  have e1 : atL (digits (rich x0) [9, 2]) 1 = .ok d1 := e1
  have m5 := tmod_ok (i := d0) (show (0 : Int) < 5 by decide)
  obtain ⟨n, en, hn0, hn⟩ : ∃ n : Nat, (atL [d0, d0 % 5] d1).bind (fun t8 => .ok (1 + t8)) = .ok (n : Int) ∧ 0 < n ∧ n ≤ 9 := by
    have : d1 = 0 ∨ d1 = 1 := by omega
    have g5 := Int.emod_nonneg d0 (show (5 : Int) ≠ 0 by decide)
    have l5 := Int.emod_lt_of_pos d0 (show (0 : Int) < 5 by decide)
    rcases this with rfl | rfl
    · refine ⟨(1 + d0).toNat, ?_, by omega, by omega⟩
      have : (((1 + d0).toNat : Nat) : Int) = 1 + d0 := by omega
      rw [this]; rfl
    · refine ⟨(1 + d0 % 5).toNat, ?_, by omega, by omega⟩
      have : (((1 + d0 % 5).toNat : Nat) : Int) = 1 + d0 % 5 := by omega
      rw [this]; rfl
  obtain ⟨t, et, ht⟩ := tree_ok (k := 200) (c := x1) hn0 (by omega) (by decide)
  have pn := pruned_none (k := 200) ht (by omega) (by decide)
  have vall : VSet n (iota 0 n) := ⟨iota_sorted n 0, fun x m => by have := iota_mem.mp m; omega⟩
  have nall : iota 0 n ≠ [] := by intro e; have := congrArg List.length e; rw [iota_len] at this; simp at this; omega
  obtain ⟨ra, ea, _, _, _, _, h6, _⟩ := pruned_ok (k := 200) ht vall nall (by omega) (by decide)
  have h6 := h6 fun x m => ht.perm.mem_iff.mp m
  subst h6
  have nt := ht.normal (k := 200) (by omega) (by decide)
  have hd := ht.dep
  have hnd := ht.norm.dep
  have q1 : neTrB t.norm t.norm = .ok false := by rw [neTrB_ok (by omega) (by omega)]; simp
  obtain ⟨C, eC, hC⟩ := set_ok (k := 200) (n := n) (c := x2) (by omega) (by decide)
  have hp : (0 : Int) < (n : Int) := by omega
  obtain ⟨X, hX, vX, nX⟩ : ∃ X, (cnd (.ok (decide (C = []))) (letR ((tmod (rich x2) (n : Int)).bind fun t22 => .ok [t22]) fun things_here1 => .nx things_here1) (.nx C) : Fl (List Int) Bool) = .nx X ∧ VSet n X ∧ X ≠ [] := by
    by_cases c : C = []
    · have g := Int.emod_nonneg (rich x2) (show (n : Int) ≠ 0 by omega)
      have l := Int.emod_lt_of_pos (rich x2) hp
      exact ⟨[rich x2 % n], by simp [c, tmod_ok hp], ⟨by simp, fun x m => by simp at m; subst m; exact ⟨g, l⟩⟩, by simp⟩
    · exact ⟨C, by simp [c], hC, c⟩
  obtain ⟨r, er, rN, rF, rp, rt, _, rd⟩ := pruned_ok (k := 200) ht vX nX (by omega) (by decide)
  have rn : r.leaves.Nodup := rp.nodup_iff.mpr (sort_nodup vX.sort)
  have lX := vX.len
  have rl : r.leaves.length ≤ n := by rw [rp.length_eq]; exact lX
  have in1 := is_normal_ok (k := 200) (t := r) (by omega) (by omega) rF rN rn (by omega)
  have th1 := law_things_ok (k := 200) (t := r) (by omega) (by omega)
  have is1 : isort r.leaves = X := (isort_eq rp).trans (isort_id (vX.sort.imp fun h => by omega))
  have told1 := fun o (h : o.Perm r.leaves) => law_told_ok (k := 200) (t := r) (o := o) (by omega) rF rn (by omega) h
  have kp : ∀ o, Ord n o → (kept X o).Perm r.leaves := fun o ho => by
    refine (perm_of_iff ((ho.nodup_iff.mpr (iota_nodup n 0)).filter _) (sort_nodup vX.sort) fun x => ?_).trans rp.symm
    simp only [kept, List.mem_filter, memB_eq, decide_eq_true_eq]
    refine ⟨fun q => q.2, fun q => ⟨ho.mem_iff.mpr (iota_mem.mpr (by have := vX.mem x q; omega)), q⟩⟩
  have e6 : rng 0 6 = .ok (iota 0 6) := rng0 (n := 6) (by decide)
  simp only [c0, c1, c2, c3, r0, dg, e0, e1, m5, bnd_ok, letR_ok, en, et, pn]
  have htry : (tryF (.ex "OutOfRange") ["UnpartedError", "InvalidTable", "InvalidTree", "OutOfRange"] "OutOfRange" fun _ => .nx true : Fl Bool Bool) = .nx true := by rfl
  simp only [letR_ex, htry, seq_nx, Bool.not_true, Bool.false_eq_true, if_false, rng0 (show n ≤ 1000000 by omega), bnd_ok, ea, nt, q1, cnd_ok, eC, letR_ok]
  simp only [cnd_ok, letR_ok] at hX
  simp only [hX, seq_nx, er, letR_ok, in1, bnd_ok, Bool.not_true, Bool.false_eq_true, if_false, th1, is1, decide_true, cnd_ok, e6]
  refine seq_inv (G := fun x => Fl.run x .st = .ok true) (fun _ _ => True) trivial (fun i hi s _ => ?_) fun s _ => ?_
  · rw [iota_getE hi]
    obtain ⟨o, eo, to, ho⟩ := ht.drawn (k := 200) (c := rich (x3 + (0 + (i : Int)))) (by omega) (by decide)
    refine ⟨(), ?_, trivial⟩
    have := (rt (kept X o)).mpr ⟨o, to, rfl⟩
    have e2 := told1 _ (kp o ho)
    rw [decide_eq_true this] at e2
    simp only [kept] at e2
    simp only [eo, letR_ok, e2, bnd_ok, Bool.not_true, cnd_ok, Bool.false_eq_true, if_false]
  · by_cases c : 5 < n
    · have : decide ((5 : Int) < (n : Int)) = true := decide_eq_true (by omega)
      simp only [this, if_true, run_rt]
    · have b5 : decide ((5 : Int) < (n : Int)) = false := decide_eq_false (by omega)
      obtain ⟨os, eos, hos, los⟩ := orders_all (k := 200) (n := n) (by omega) (by decide)
      have hb : 6 ^ n ≤ 6 ^ 5 := Nat.pow_le_pow_right (by omega) (by omega)
      simp only [b5, Bool.false_eq_true, if_false, eos, letR_ok]
      refine seq_inv (G := fun x => Fl.run x .st = .ok true) (fun i (s : List (List Int)) => (∀ o', o' ∈ s ↔ ∃ o ∈ os.take i, Told t o ∧ kept X o = o') ∧ s.length ≤ i) ⟨fun o => by simp, by simp⟩ (fun i hi s h => ?_) fun s h => ?_
      · have ho := (hos _).mp (List.getElem_mem hi)
        have et : os.take (i + 1) = os.take i ++ [os[i]] := by rw [List.take_succ, List.getElem?_eq_getElem hi]; rfl
        have e2 := ht.told (k := 200) ho (by omega) (by decide)
        by_cases q : Told t os[i]
        · refine ⟨s ++ [kept X os[i]], ?_, fun o' => ?_, by simp; omega⟩
          · simp only [e2, decide_eq_true q, cnd_ok, if_true]
            rw [appL_ok (by omega)]
            rfl
          · rw [List.mem_append, List.mem_singleton, h.1 o', et]
            constructor
            · rintro (⟨o, m, h1, h2⟩ | q2)
              · exact ⟨o, List.mem_append_left _ m, h1, h2⟩
              · exact ⟨os[i], List.mem_append_right _ List.mem_cons_self, q, q2.symm⟩
            · rintro ⟨o, m, h1, h2⟩
              rw [List.mem_append, List.mem_singleton] at m
              rcases m with m | rfl
              · exact .inl ⟨o, m, h1, h2⟩
              · exact .inr h2.symm
        · refine ⟨s, ?_, fun o' => ?_, by omega⟩
          · simp only [e2, decide_eq_false q, cnd_ok, Bool.false_eq_true, if_false]
            rfl
          · rw [h.1 o', et]
            constructor
            · rintro ⟨o, m, h1, h2⟩
              exact ⟨o, List.mem_append_left _ m, h1, h2⟩
            · rintro ⟨o, m, h1, h2⟩
              rw [List.mem_append, List.mem_singleton] at m
              rcases m with m | rfl
              · exact ⟨o, m, h1, h2⟩
              · exact absurd h1 q
      · rw [List.take_length] at h
        obtain ⟨os2, eos2, hos2, _⟩ := orders_all (k := 200) (n := X.length) (by omega) (by decide)
        simp only [eos2, bnd_ok, letR_ok]
        refine seq_inv (G := fun x => Fl.run x .st = .ok true) (fun _ _ => True) trivial (fun i hi _ _ => ?_) fun _ _ => rfl
        have ho := (hos2 _).mp (List.getElem_mem hi)
        generalize os2[i] = o2 at ho
        refine ⟨(), ?_, trivial⟩
        have e3 : mapR (fun k_1 => atL X k_1) o2 = .ok (o2.map fun i => X.getD i.toNat 0) := mapR_ok fun j m => by
          have := iota_mem.mp (ho.mem_iff.mp m)
          rw [atL_int (by omega) (by omega), getD_at2 (by omega)]
        have e4 : (o2.map fun i => X.getD i.toNat 0).Perm r.leaves := by
          refine (ho.map _).trans (.trans (.of_eq ?_) rp.symm)
          apply List.ext_getElem?
          intro j
          rw [List.getElem?_map, iota_get?]
          by_cases hj : j < X.length
          · simp [hj]
          · simp [hj]
        have e5 := told1 _ e4
        have e7 : Told r (o2.map fun i => X.getD i.toNat 0) ↔ (o2.map fun i => X.getD i.toNat 0) ∈ s := by
          rw [rt, h.1]
          constructor
          · rintro ⟨o, h1, h2⟩
            exact ⟨o, (hos o).mpr (h1.perm.trans ht.perm), h1, h2⟩
          · rintro ⟨o, _, h1, h2⟩
            exact ⟨o, h1, h2⟩
        have e8 : decide (Told r (o2.map fun i => X.getD i.toNat 0)) = memB (o2.map fun i => X.getD i.toNat 0) s := by
          rw [memB_eq, decide_eq_decide]
          exact e7
        simp only [e3, bnd_ok, letR_ok, e5, e8, decide_true, Bool.not_true, cnd_ok, Bool.false_eq_true, if_false]
theorem plain (ns : List Int) (h : ns.length ≤ 63) : callP T 1000 201 "law" [.list (ns.map .int)] = .ok (.bool true) := (sm_law 201 ns).val (law_true ns)
end K25

set_option maxHeartbeats 0
open PySem PySem.W PySem.Calls PyProof.Rows
theorem PySem.Challenge.cw_unpartedrows_k25_whole_pruned_trees_holds : PySem.Challenge.rw_unpartedrows_k25_whole_pruned_trees.Holds := by
  w_on; o_law
  refine HandSHeadRun.head_any (r := OpenLaw.row PySem.Challenge.rw_unpartedrows_k25_whole_pruned_trees) (q := view (OpenLaw.row PySem.Challenge.rw_unpartedrows_k25_whole_pruned_trees).prog [39]) (H := K25.hk) (ob := K25.ob) (M := 4000) (loose := K25.names) (d := HandSHeadRun.topDef (OpenLaw.row PySem.Challenge.rw_unpartedrows_k25_whole_pruned_trees).prog 39) (kwd := []) K25.ob_eq
    (by kernel_rfl) (fun s => by kernel_rfl) K25.run (by kernel_rfl) (by kernel_rfl) (by kernel_rfl) (by rfl) (by first | assumption | decide +kernel) (by decide +kernel) ⟨rfl, rfl, rfl, rfl, rfl, by decide +kernel⟩ ?hw ?hc
  case hw => w_witness2
  case hc => exact PC.walk_PC (l := PySem.Challenge.rw_unpartedrows_k25_whole_pruned_trees) (n := 63) (k := 200) (g := K25.g) (fn := K25.fn) (T := K25.T) (fu := 1000) (nm := "law") rfl (by decide) (by kernel_rfl) (by kernel_rfl) ⟨rfl, by decide, by decide⟩ (by kernel_rfl) K25.all_ok K25.plain
