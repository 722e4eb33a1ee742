import PyProof.Rows.All
import Wide.All
import OpenK.AllK
import Wide.FinOn
import KE.SortData
import HandS.ForExc
import HandS.ForMost
import HandS.TupAny
import HandS.TupMul
import HandS.IsInst
import HandS.TupLe
import HandS.Style
import HandS.IterVal
import HandS.Text
import HandS.NoneIn
import HandS.Deep
import HandS.SetFor
import HandS.TupLen
import KE.DataMinMax
import PyProof.WalkInts
import HandS.HeadHook2
import HandS.HotCalls
import HandS.ExcIs
import HandS.WordsExc
import HandS.Defaults
import HandS.Flow
import KE.GoesEnum
import HandS.DictTup
import HandS.Small
import HandS.SetBool
import HandS.SetKeys
import HandS.SetTxt0
import PyProof.ListNew
import HandS.Strs
import HandS.DictComp
import PyProof.EqKinds
import KE.KStateDown
import HandS.Ends
import HandS.More
import HandS.Words
import HandS.Head0
import HandS.Head1
import HandS.Head2
import HandS.HeadEnd
import PySem.Challenge.RW_siteworks_k19_logs_refused
set_option Elab.async false
section
set_option Elab.async false
set_option linter.all false
namespace MP
open PySem

/-- a slot: nothing, a shared datum, an owned (t: made here; else lent by the caller) or locked one -/
inductive Sl where
  | no | sh (d : PyData) | mu (t : Bool) (d : PyData) | lk (t : Bool) (d : PyData)
abbrev Rho := List Sl
inductive R (α : Type) where
  | ok (a : α) (ρ : Rho) | ex (c : Str) (ρ : Rho) | st
def R.bind {α β : Type} : R α → (α → Rho → R β) → R β
  | .ok a ρ, f => f a ρ
  | .ex c ρ, _ => .ex c ρ
  | .st, _ => .st
inductive CR where
  | ok (d : PyData) (fr : Bool) (outs : Rho) | ex (c : Str) (outs : Rho) | st
abbrev CT := Str → Rho → CR

inductive Op where
  | add | sub | mul | fdiv | mod | pow | neg
  | eq | ne | lt | le | gt | ge | isin (n : Bool) | isC (n : Bool) (c : PyData)
  | idx
  | len | all | any | sum | mx | mn | mx2 | mn2 | mxT | mnT | mnD
  | sorted | sortedT | sortedSet | lenSet
  | tuple | list | dict | int | str | isi (t : String)
  | get2 | index | indexT | count | join | split | values
  | lrange | trange | lzip | tzip | emp
  deriving Inhabited
/-- what a loop walks -/
inductive Ik where
  | lis | rng1 | rng2 | enu | zip | keys
inductive Tg where
  | n (i : Nat) | t (ts : List Tg)
inductive ME where
  | c (d : PyData)
  | v (i : Nat)
  | g (x : Str) (d : PyData)
  | op (o : Op) (as : List ME)
  | ch (o1 o2 : Op) (a b c : ME)
  | sl (a : ME) (lo hi : List ME)
  | tu (as : List ME)
  | li (as : List ME)
  | dn (t : Bool)
  | bo (k : Bool) (as : List ME)
  | nt (a : ME)
  | ie (c a b : ME)
  | ca (f : Str) (as : List ME) (io : List Bool)
  | cx (fs : List Str) (i : ME) (as : List ME)
  | cp (el : ME) (tg : Tg) (ik : Ik) (ia : List ME) (cd : List ME)
  | dc (k v : ME) (tg : Tg) (ik : Ik) (ia : List ME) (cd : List ME)
  | ls (el : ME) (tg : Tg) (ik : Ik) (ia : List ME) (cd : List ME)
  | sk (a : ME) (p : Nat) (key : ME)
  | ix (tp : Bool) (a b : ME)
  | stk
inductive MS where
  | asg (t : Tg) (e : ME)
  | par (ts : List Nat) (es : List ME)
  | aug (i : Nat) (o : Op) (e : ME)
  | app (i : Nat) (e : ME)
  | ext (i : Nat) (e : ME)
  | rem (i : Nat) (e : ME)
  | put (i : Nat) (k e : ME)
  | putT (i : Nat) (ka kb e : ME)
  | ret (e : ME)
  | ite (c : ME) (a b : List MS)
  | forr (tg : Tg) (ik : Ik) (ia : List ME) (b : List MS)
  | wh (c : ME) (b : List MS)
  | rai (c : Str)
  | exp (e : ME)
  | pass
  | tryW (b : List MS) (i : Nat) (f : Str)
  | stk
inductive Fl where
  | nx | rt (d : PyData) (fr : Bool)

/-! ### data -/
def big : Nat := 16777216
def asInts : List PyData → Option (List Int)
  | [] => some []
  | .int i :: r => (asInts r).map (i :: ·)
  | _ => none
def asBools : List PyData → Option (List Bool)
  | [] => some []
  | .bool i :: r => (asBools r).map (i :: ·)
  | _ => none
def asStrs : List PyData → Option (List Str)
  | [] => some []
  | .str i :: r => (asStrs r).map (i :: ·)
  | _ => none
def flat : PyData → Bool
  | .str _ | .int _ | .bool _ | .none => true
  | _ => false
/-- plain and not too deep: it can be compared -/
def shaped (d : PyData) : Bool := PyData.canLay0 d && decide (PyData.depth d ≤ 64)
/-- the place that an index names among n -/
def ixN (n : Nat) (i : Int) : Option Nat :=
  if 0 ≤ i then (if i < n then some i.toNat else none)
  else if -(n : Int) ≤ i then some (i + n).toNat else none
def nth {α : Type} (xs : List α) (i : Int) : Option α := (ixN xs.length i).bind fun j => xs[j]?
/-- a slice's end among n -/
def sIx (n d : Nat) : Option Int → Nat -- d: where none is written
  | none => d
  | some v =>
    if v < 0 then (v + (n : Int)).toNat else min v.toNat n
def cut {α : Type} (xs : List α) (lo hi : Option Int) : List α := (xs.drop (sIx xs.length 0 lo)).take (sIx xs.length xs.length hi - sIx xs.length 0 lo)
def mulOk (i j : Int) : Bool := (decide (-(2 ^ 64) < i) && decide (i < 2 ^ 64)) || (decide (-(2 ^ 64) < j) && decide (j < 2 ^ 64))
def small (j : Int) : Bool := decide (-(2 ^ 62) ≤ j) && decide (j < 2 ^ 62)
/-- keys of dicts: ints and texts (false), tuples of these (true) -/
def isKey : PyData → Bool
  | .int _ | .str _ => true
  | _ => false
def keyEq : PyData → PyData → Bool
  | .int i, .int j => i == j
  | .str x, .str y => x == y
  | .tuple [.int a, .int b], .tuple [.int c, .int d] => a == c && b == d
  | _, _ => false
def dget (k : PyData) : List (PyData × PyData) → Option PyData
  | [] => none
  | (a, b) :: r => if keyEq a k then some b else dget k r
def dput (k v : PyData) (kvs : List (PyData × PyData)) : List (PyData × PyData) :=
  if (kvs.any fun p => keyEq p.1 k) = true then kvs.map (fun p => if keyEq p.1 k = true then (p.1, v) else p) else kvs ++ [(k, v)]
def insBy (le : PyData → PyData → Bool) (x : PyData) : List PyData → List PyData
  | [] => [x]
  | y :: r => if le x y then x :: y :: r else y :: insBy le x r
def isort (le : PyData → PyData → Bool) : List PyData → List PyData
  | [] => []
  | x :: r => insBy le x (isort le r)
def dle : PyData → PyData → Bool := PySem.W.dataLe false id
def alike1 (ds : List PyData) : Bool := ds.all fun d => ds.all fun e => PySem.W.alike d e
def sortable (ds : List PyData) : Bool := (ds.all fun d => match d with | .tuple (_ :: _) => true | _ => false) || (ds.all fun d => match d with | .none | .tuple _ => false | _ => true)
def sortOk (ds : List PyData) : Bool := alike1 ds && sortable ds && decide (ds.length ≤ big) && ds.all fun d => decide (d.depth ≤ 60) && d.canLay0
def dedup : List Str → List Str
  | [] => []
  | x :: r => if r.contains x then dedup r else x :: dedup r
def ltStr (a b : Str) : Bool := decide (a.cps.toList < b.cps.toList)
def truth : PyData → Option Bool
  | .none => some false
  | .bool b => some b
  | .int i => some (i != 0)
  | .list xs => some (!xs.isEmpty)
  | .tuple xs => some (!xs.isEmpty)
  | _ => none
def tyIs (t : String) : PyData → Option Bool
  | .none => some false
  | .bool _ => some (t == "bool" || t == "int")
  | .int _ => some (t == "int")
  | .str _ => some (t == "str")
  | .list _ => some (t == "list")
  | .tuple _ => some (t == "tuple")
  | .dict _ => none
def sConst : PyData → PyData → Option Bool
  | .none, .none => some true
  | .bool _, .none | .int _, .none | .str _, .none | .list _, .none | .tuple _, .none | .dict _, .none => some false
  | .bool a, .bool b => some (decide (a = b))
  | _, _ => none
def maxI : Int → List Int → Int
  | m, [] => m
  | m, x :: r => maxI (if m < x then x else m) r
def minI : Int → List Int → Int
  | m, [] => m
  | m, x :: r => minI (if x < m then x else m) r
def seq? : PyData → Option (List PyData)
  | .list xs => some xs
  | .tuple xs => some xs
  | _ => none
def chars (x : Str) : List PyData := x.cps.toList.map fun c => .str ⟨#[c]⟩
def idxOf (x : PyData) : List PyData → Option Nat
  | [] => none
  | y :: r => if PyData.eqv y x then some 0 else (idxOf x r).map (· + 1)
def minD : PyData → List PyData → PyData
  | m, [] => m
  | m, x :: r => minD (if PySem.W.dataLt x m then x else m) r
def maxD : PyData → List PyData → PyData
  | m, [] => m
  | m, x :: r => maxD (if PySem.W.dataLt m x then x else m) r
def enumD : Nat → List PyData → List PyData
  | _, [] => []
  | i, x :: r => .tuple [.int (i : Nat), x] :: enumD (i + 1) r
def zipD : List PyData → List PyData → List PyData
  | x :: r, y :: q => .tuple [x, y] :: zipD r q
  | _, _ => []
def rangeD (lo : Int) (n : Nat) : List PyData := (List.range n).map fun (i : Nat) => .int (lo + i)
def repD (xs : List PyData) (k : Int) : List PyData := (List.replicate k.toNat xs).flatten
def repS (x : Str) (k : Int) : Str := ⟨(List.replicate k.toNat x.cps.toList).flatten.toArray⟩

def primA : List PyData → Option PyData
  | [.int i, .int j] => some (.int (i + j))
  | [.str x, .str y] => if x.length + y.length ≤ big then some (.str (x ++ y)) else none
  | [.list xs, .list ys] => if xs.length + ys.length ≤ big then some (.list (xs ++ ys)) else none
  | [.tuple xs, .tuple ys] => if xs.length + ys.length ≤ big then some (.tuple (xs ++ ys)) else none
  | _ => none
def primM : List PyData → Option PyData
  | [.int i, .int j] => if mulOk i j then some (.int (i * j)) else none
  | [.str x, .int j] => if decide (0 ≤ j) && decide (j ≤ 1000) && decide (x.length ≤ 1000) then some (.str (repS x j)) else none
  | [.list xs, .int j] => if xs.length * j.toNat ≤ big && small j then some (.list (repD xs j)) else none
  | [.tuple xs, .int j] => if !xs.isEmpty && decide (2 ≤ j) && decide (j ≤ 1000) && decide (xs.length ≤ 1000) then some (.tuple (repD xs j)) else none
  | _ => none
def primCmp (i : Int → Int → Bool) (s : Str → Str → Bool) : List PyData → Option PyData
  | [.int a, .int b] => some (.bool (i a b))
  | [.str a, .str b] => some (.bool (s a b))
  | _ => none
def primIn (n : Bool) : List PyData → Option PyData
  | [x, .list ys] => if flat x && ys.all flat then some (.bool (n != ys.any fun y => PyData.eqv y x)) else none
  | [x, .tuple ys] => if flat x && ys.all flat then some (.bool (n != ys.any fun y => PyData.eqv y x)) else none
  | [k, .dict kvs] => if isKey k && kvs.all (fun p => isKey p.1) then some (.bool (n != (dget k kvs).isSome)) else none
  | [.str x, .str z] => match x.cps.toList with
    | [c] => some (.bool (n != decide (c ∈ z.cps.toList)))
    | _ => none
  | _ => none
def primIdx : List PyData → Option PyData
  | [.list xs, .int i] => nth xs i
  | [.tuple xs, .int i] => nth xs i
  | [.dict kvs, k] => if isKey k && kvs.all (fun p => isKey p.1) then dget k kvs else none
  | _ => none
def cutD (l h : Option Int) : PyData → Option PyData
  | .list xs => some (.list (cut xs l h))
  | .tuple xs => some (.tuple (cut xs l h))
  | .str z => if z.length ≤ big then some (.str ⟨(cut z.cps.toList l h).toArray⟩) else none
  | _ => none
def prim1 : Op → PyData → Option PyData
  | .neg, .int i => some (.int (-i))
  | .len, .list xs => some (.int xs.length)
  | .len, .tuple xs => some (.int xs.length)
  | .len, .str z => if z.length ≤ big then some (.int z.length) else none
  | .len, .dict ((.none, .none) :: r) => some (.int r.length)
  | .len, .dict kvs => some (.int kvs.length)
  | .all, .list xs => (asBools xs).map fun bs => .bool (bs.all id)
  | .any, .list xs => (asBools xs).map fun bs => .bool (bs.any id)
  | .sum, .list xs => (asInts xs).map fun is => .int is.sum
  | .mx, .list xs => match asInts xs with
    | some (i :: is) => some (.int (maxI i is))
    | _ => none
  | .mn, .list xs => match asInts xs with
    | some (i :: is) => some (.int (minI i is))
    | _ => none
  | .mxT, .tuple xs => match asInts xs with
    | some (i :: is) => some (.int (maxI i is))
    | _ => none
  | .mnT, .tuple xs => match asInts xs with
    | some (i :: is) => some (.int (minI i is))
    | _ => none
  | .mnD, .list (x :: r) => if sortOk (x :: r) then some (minD x r) else none
  | .sorted, .list xs => if sortOk xs then some (.list (isort dle xs)) else none
  | .sortedT, .tuple xs => match asInts xs with
    | some _ => if xs.length ≤ 1000 then some (.list (isort dle xs)) else none
    | none => none
  | .sortedSet, .list xs => match asStrs xs with
    | some ss => if ss.length ≤ 1000 then some (.list (isort dle ((dedup ss).map .str))) else none
    | none => none
  | .lenSet, .tuple xs => match asInts xs with
    | some is => if is.length ≤ 1000 then some (.int (is.eraseDups).length) else none
    | none => none
  | .tuple, .list xs => some (.tuple xs)
  | .tuple, .tuple xs => some (.tuple xs)
  | .list, .list xs => some (.list xs)
  | .list, .tuple xs => some (.list xs)
  | .emp, .dict kvs => if kvs.all (fun p => isKey p.1) then some (.bool kvs.isEmpty) else none
  | .int, .int i => some (.int i)
  | .int, .bool b => some (.int (if b then 1 else 0))
  | .isi t, d => (tyIs t d).map .bool
  | .isC n c, d => (sConst d c).map fun b => .bool (n != b)
  | .lrange, .int n => if small n && decide (n ≤ 1000000) then some (.list (rangeD 0 n.toNat)) else none
  | .trange, .int n => if small n && decide (n ≤ 1000000) then some (.tuple (rangeD 0 n.toNat)) else none
  | _, _ => none
def prim : Op → List PyData → Option PyData
  | .add, as => primA as
  | .sub, [.int i, .int j] => some (.int (i - j))
  | .mul, as => primM as
  | .fdiv, [.int i, .int j] => if 0 < j && decide (j < 1073741824) then some (.int (i / j)) else none
  | .mod, [.int i, .int j] => if 0 < j then some (.int (i % j)) else none
  | .pow, [.int i, .int j] => if decide (0 ≤ j) && decide (j ≤ 1000000) && decide (i.natAbs < 2 ^ 64) then some (.int (i ^ j.toNat)) else none
  | .eq, [a, b] => if shaped a && shaped b then some (.bool (PyData.eqv a b)) else none
  | .ne, [a, b] => if shaped a && shaped b then some (.bool (!PyData.eqv a b)) else none
  | .lt, as => primCmp (fun i j => decide (i < j)) (fun x y => ltStr x y) as
  | .le, as => primCmp (fun i j => decide (i ≤ j)) (fun x y => !ltStr y x) as
  | .gt, as => primCmp (fun i j => decide (j < i)) (fun x y => ltStr y x) as
  | .ge, as => primCmp (fun i j => decide (j ≤ i)) (fun x y => !ltStr x y) as
  | .isin n, as => primIn n as
  | .idx, as => primIdx as
  | .mx2, [.int i, .int j] => some (.int (if j > i then j else i))
  | .mn2, [.int i, .int j] => some (.int (if j < i then j else i))
  | .mx2, [.str i, .str j] => some (.str (if ltStr i j then j else i))
  | .mn2, [.str i, .str j] => some (.str (if ltStr j i then j else i))
  | .get2, [.dict kvs, k, d] => if isKey k && kvs.all (fun p => isKey p.1) then some ((dget k kvs).getD d) else none
  | .index, [.list ys, x] => if flat x && ys.all flat then (idxOf x ys).map fun j => .int (j : Nat) else none
  | .indexT, [.tuple ys, .str z] => if (asStrs ys).isSome then (idxOf (.str z) ys).map fun j => .int (j : Nat) else none
  | .count, [.list ys, x] => if flat x && ys.all flat then some (.int (ys.countP fun y => PyData.eqv y x)) else none
  | .lzip, [a, b] => match seq? a, seq? b with
    | some xs, some ys => some (.list (zipD xs ys))
    | _, _ => none
  | .tzip, [a, b] => match seq? a, seq? b with
    | some xs, some ys => some (.tuple (zipD xs ys))
    | _, _ => none
  | o, [d] => prim1 o d
  | _, _ => none
/-- does the operation make a new list? -/
def frOp : Op → Bool
  | .list | .lrange | .sorted | .sortedT | .sortedSet | .lzip => true
  | _ => false
def isCmp : Op → Bool
  | .eq | .ne | .lt | .le | .gt | .ge => true
  | _ => false

/-! ### operands -/
inductive Opd where
  | val (d : PyData) | slot (i : Nat)
def rdSl : Sl → Option PyData
  | .sh d | .mu _ d | .lk _ d => some d
  | .no => none
def rdO (ρ : Rho) : Opd → Option PyData
  | .val d => some d
  | .slot i => (ρ[i]?).bind rdSl
def rdOs (ρ : Rho) : List Opd → Option (List PyData)
  | [] => some []
  | o :: r => match rdO ρ o, rdOs ρ r with
    | some d, some q => some (d :: q)
    | _, _ => none
/-- a name as an operand: its slot where it is owned -/
def opdV (i : Nat) (ρ : Rho) : R Opd := match ρ[i]? with
  | some (.sh d) => .ok (.val d) ρ
  | some (.mu _ _) => .ok (.slot i) ρ
  | some (.lk _ _) => .ok (.slot i) ρ
  | _ => .st
/-- a name as a value: what is owned is shared from then on -/
def frzOk : PyData → Bool
  | .list _ => true
  | .dict _ => true
  | _ => false
def valV (i : Nat) (ρ : Rho) : R (PyData × Bool) := match ρ[i]? with
  | some (.sh d) => .ok (d, false) ρ
  | some (.mu true d) => if frzOk d = true then .ok (d, false) (ρ.set i (.sh d)) else .st
  | _ => .st
def ioV (i : Nat) (ρ : Rho) : R Opd := match ρ[i]? with
  | some (.mu _ _) => .ok (.slot i) ρ
  | _ => .st
/-! ### calls -/
def argsOf (ρ : Rho) : List Opd → Option Rho
  | [] => some []
  | .val d :: r => (argsOf ρ r).map (.sh d :: ·)
  | .slot i :: r => match ρ[i]? with
    | some (.mu _ d) => (argsOf ρ r).map (.mu false d :: ·)
    | _ => none
def slotsOf : List Opd → List Nat
  | [] => []
  | .val _ :: r => slotsOf r
  | .slot i :: r => i :: slotsOf r
def back (ρ : Rho) : List Opd → Rho → Option Rho
  | [], _ => some ρ
  | .val _ :: r, _ :: os => back ρ r os
  | .slot i :: r, .mu _ d :: os => match ρ[i]? with
    | some (.mu t _) => back (ρ.set i (.mu t d)) r os
    | _ => none
  | _, _ => none
def nodup : List Nat → Bool
  | [] => true
  | x :: r => !r.contains x && nodup r
def callR (cf : CT) (f : Str) (os : List Opd) (ρ : Rho) : R (PyData × Bool) :=
  if nodup (slotsOf os) then match argsOf ρ os with
    | none => .st
    | some as => match cf f as with
      | .ok d fr outs => (match back ρ os outs with
        | some ρ' => .ok (d, fr) ρ'
        | none => .st)
      | .ex c outs => (match back ρ os outs with
        | some ρ' => .ex c ρ'
        | none => .st)
      | .st => .st
  else .st
/-! ### targets, loops -/
def setSl (i : Nat) (s : Sl) (ρ : Rho) : Option Rho := match ρ[i]? with
  | some (.mu false _) => none
  | some (.lk _ _) => none
  | some _ => some (ρ.set i s)
  | none => none
mutual
def bindTg : Tg → PyData → Rho → Option Rho
  | .n i, d, ρ => setSl i (.sh d) ρ
  | .t ts, .tuple ds, ρ => bindTgs ts ds ρ
  | .t _, _, _ => none
def bindTgs : List Tg → List PyData → Rho → Option Rho
  | [], [], ρ => some ρ
  | t :: ts, d :: ds, ρ => match bindTg t d ρ with
    | some ρ' => bindTgs ts ds ρ'
    | none => none
  | _, _, _ => none
end
mutual
def tgSlots : Tg → List Nat
  | .n i => [i]
  | .t ts => tgsSlots ts
def tgsSlots : List Tg → List Nat
  | [] => []
  | t :: r => tgSlots t ++ tgsSlots r
end
def wipeR : List Nat → Rho → Option Rho
  | [], ρ => some ρ
  | i :: r, ρ => match setSl i .no ρ with
    | some ρ' => wipeR r ρ'
    | none => none
def itemsOf : PyData → Option (List PyData)
  | .list xs => some xs
  | .tuple xs => some xs
  | .str x => some (chars x)
  | _ => none
/-- a walk's items, from the operands; for the first kind a locked slot -/
def itemsI (ρ : Rho) : Ik → List Opd → Option (List PyData)
  | .lis, [o] => (rdO ρ o).bind itemsOf
  | .rng1, [.val (.int j)] => if small j then some (rangeD 0 j.toNat) else none
  | .rng2, [.val (.int i), .val (.int j)] => if small i && small j then some (rangeD i (j - i).toNat) else none
  | .enu, [o] => ((rdO ρ o).bind itemsOf).map (enumD 0)
  | .keys, [.val (.dict kvs)] => if kvs.all (fun p => isKey p.1) then some (kvs.map (·.1)) else none
  | .zip, [.val a, .val b] => match itemsOf a, itemsOf b with
    | some xs, some ys => some (zipD xs ys)
    | _, _ => none
  | _, _ => none
def lockO (ρ : Rho) : List Opd → Rho
  | [.slot i] => match ρ[i]? with
    | some (.mu t d) => ρ.set i (.lk t d)
    | _ => ρ
  | _ => ρ
def unlockO (ρ0 ρ : Rho) : List Opd → Option Rho
  | [.slot i] => match ρ0[i]? with
    | some (.mu t _) => (match ρ[i]? with
      | some (.lk _ d) => some (ρ.set i (.mu t d))
      | _ => none)
    | _ => some ρ
  | _ => some ρ
/-- items, one by one, a list made -/
def compL (f : PyData → Rho → R (Option PyData)) : List PyData → Rho → R (List PyData)
  | [], ρ => .ok [] ρ
  | x :: r, ρ => match f x ρ with
    | .ok o ρ1 => (match compL f r ρ1 with
      | .ok ys ρ2 => (match o with
        | some y => .ok (y :: ys) ρ2
        | none => .ok ys ρ2)
      | _ => .st)
    | _ => .st
def forL (f : PyData → Rho → R Fl) : List PyData → Rho → R Fl
  | [], ρ => .ok .nx ρ
  | x :: r, ρ => match f x ρ with
    | .ok .nx ρ1 => forL f r ρ1
    | o => o
def whileL (c : Rho → R Bool) (b : Rho → R Fl) : Nat → Rho → R Fl
  | 0, _ => .st
  | n + 1, ρ => match c ρ with
    | .ok true ρ1 => (match b ρ1 with
      | .ok .nx ρ2 => whileL c b n ρ2
      | o => o)
    | .ok false ρ1 => .ok .nx ρ1
    | .ex e ρ1 => .ex e ρ1
    | .st => .st
def optB {α β : Type} (o : Option α) (f : α → R β) : R β := match o with
  | some a => f a
  | none => .st
def dictL (f : PyData → Rho → R (Option (PyData × PyData))) : List PyData → List (PyData × PyData) → Rho → R (List (PyData × PyData))
  | [], acc, ρ => .ok acc ρ
  | x :: r, acc, ρ => match f x ρ with
    | .ok (some (k, v)) ρ1 => if isKey k then dictL f r (dput k v acc) ρ1 else .st
    | .ok none ρ1 => dictL f r acc ρ1
    | _ => .st
def keysL (f : PyData → Rho → R PyData) : List PyData → Rho → R (List PyData)
  | [], ρ => .ok [] ρ
  | x :: r, ρ => match f x ρ with
    | .ok y ρ1 => (match keysL f r ρ1 with
      | .ok ys ρ2 => .ok (y :: ys) ρ2
      | _ => .st)
    | _ => .st
def insKey (x : PyData × PyData) : List (PyData × PyData) → List (PyData × PyData)
  | [] => [x]
  | y :: r => if dle x.1 y.1 then x :: y :: r else y :: insKey x r
def sortKey : List (PyData × PyData) → List (PyData × PyData)
  | [] => []
  | x :: r => insKey x (sortKey r)

/-- a text's meaning: as a value, as a test, the name that it is -/
structure Sm where
  v : Rho → R (PyData × Bool)
  t : Rho → R Bool
  s : Option Nat
/-- as an operand -/
def Sm.o (m : Sm) (ρ : Rho) : R Opd := match m.s with
  | some i => opdV i ρ
  | none => (m.v ρ).bind fun d ρ1 => .ok (.val d.1) ρ1
/-- lent -/
def Sm.a (m : Sm) (b : Bool) (ρ : Rho) : R Opd := match b with
  | true => (match m.s with
    | some i => ioV i ρ
    | none => .st)
  | false => (m.v ρ).bind fun d ρ1 => .ok (.val d.1) ρ1
def evOs : List Sm → Rho → R (List Opd)
  | [], ρ => .ok [] ρ
  | m :: r, ρ => (m.o ρ).bind fun o ρ1 => (evOs r ρ1).bind fun os ρ2 => .ok (o :: os) ρ2
def evs : List Sm → Rho → R (List PyData)
  | [], ρ => .ok [] ρ
  | m :: r, ρ => (m.v ρ).bind fun d ρ1 => (evs r ρ1).bind fun ds ρ2 => .ok (d.1 :: ds) ρ2
def evAs : List Sm → List Bool → Rho → R (List Opd)
  | [], [], ρ => .ok [] ρ
  | m :: r, b :: bs, ρ => (m.a b ρ).bind fun o ρ1 => (evAs r bs ρ1).bind fun os ρ2 => .ok (o :: os) ρ2
  | _, _, _ => .st
/-- a walk's operands -/
def evK : Ik → List Sm → Rho → R (List Opd)
  | .zip, ms, ρ => (evs ms ρ).bind fun ds ρ1 => .ok (ds.map .val) ρ1
  | _, ms, ρ => evOs ms ρ
def evC : List Sm → Rho → R Bool
  | [], ρ => .ok true ρ
  | [m], ρ => m.t ρ
  | _, _ => .st
def tst (o : Rho → R Opd) (ρ : Rho) : R Bool := (o ρ).bind fun o ρ1 => optB ((rdO ρ1 o).bind truth) fun b => .ok b ρ1
/-- as a test: by its truth -/
def mk (v : Rho → R (PyData × Bool)) : Sm := ⟨v, tst fun ρ => (v ρ).bind fun d ρ1 => .ok (.val d.1) ρ1, none⟩
def v_op (o : Op) (as : List Sm) (ρ : Rho) : R (PyData × Bool) := (evOs as ρ).bind fun os ρ1 => optB ((rdOs ρ1 os).bind (prim o)) fun d => .ok (d, frOp o) ρ1
def v_ch (o1 o2 : Op) (a b c : Sm) (ρ : Rho) : R (PyData × Bool) := (a.o ρ).bind fun oa ρ1 => (b.o ρ1).bind fun ob ρ2 => optB ((rdOs ρ2 [oa, ob]).bind (prim o1)) fun d => match d with
    | .bool true => (c.o ρ2).bind fun oc ρ3 => optB ((rdOs ρ3 [ob, oc]).bind (prim o2)) fun d => .ok (d, false) ρ3
    | .bool false => .ok (.bool false, false) ρ2
    | _ => .st
def evI : List Sm → Rho → R (Option Int)
  | [], ρ => .ok none ρ
  | [m], ρ => (m.v ρ).bind fun d ρ1 => match d.1 with
    | .int i => .ok (some i) ρ1
    | _ => .st
  | _, _ => .st
def v_sl (a : Sm) (lo hi : List Sm) (ρ : Rho) : R (PyData × Bool) := (a.o ρ).bind fun oa ρ1 => (evI lo ρ1).bind fun l ρ2 => (evI hi ρ2).bind fun h ρ3 => optB ((rdO ρ3 oa).bind (cutD l h)) fun d => .ok (d, false) ρ3
def v_tu (as : List Sm) (ρ : Rho) : R (PyData × Bool) := (evs as ρ).bind fun ds ρ1 => if ds.length ≤ big then .ok (.tuple ds, false) ρ1 else .st
def v_li (as : List Sm) (ρ : Rho) : R (PyData × Bool) := (evs as ρ).bind fun ds ρ1 => if ds.length ≤ big then .ok (.list ds, true) ρ1 else .st
def v_an (a b : Sm) (ρ : Rho) : R (PyData × Bool) := (a.v ρ).bind fun d ρ1 => match d.1 with
    | .bool true => b.v ρ1
    | .bool false => .ok (.bool false, false) ρ1
    | _ => .st
def v_or (a b : Sm) (ρ : Rho) : R (PyData × Bool) := (a.v ρ).bind fun d ρ1 => match d.1 with
    | .bool false => b.v ρ1
    | .bool true => .ok (.bool true, false) ρ1
    | _ => .st
def t_an (a b : Sm) (ρ : Rho) : R Bool := (a.t ρ).bind fun t ρ1 => if t then b.t ρ1 else .ok false ρ1
def t_or (a b : Sm) (ρ : Rho) : R Bool := (a.t ρ).bind fun t ρ1 => if t then .ok true ρ1 else b.t ρ1
def andS (ma mb : Sm) : Sm := ⟨v_an ma mb, t_an ma mb, none⟩
def orS (ma mb : Sm) : Sm := ⟨v_or ma mb, t_or ma mb, none⟩
/-- a row of ands, of ors -/
def boS (k : Bool) : List Sm → Sm
  | [] => mk fun _ => .st
  | [m] => m
  | m :: r => if k then andS m (boS k r) else orS m (boS k r)
def v_nt (a : Sm) (ρ : Rho) : R (PyData × Bool) := (a.o ρ).bind fun o ρ1 => optB ((rdO ρ1 o).bind truth) fun b => .ok (.bool (!b), false) ρ1
def t_nt (a : Sm) (ρ : Rho) : R Bool := (a.t ρ).bind fun b ρ1 => .ok (!b) ρ1
def v_ie (c a b : Sm) (ρ : Rho) : R (PyData × Bool) := (c.t ρ).bind fun t ρ1 => if t then a.v ρ1 else b.v ρ1
def v_ca (cf : CT) (f : Str) (as : List Sm) (io : List Bool) (ρ : Rho) : R (PyData × Bool) := (evAs as io ρ).bind fun os ρ1 => callR cf f os ρ1
def v_cx (cf : CT) (fs : List Str) (i : Sm) (as : List Sm) (ρ : Rho) : R (PyData × Bool) := (i.v ρ).bind fun d ρ1 => match d.1 with
    | .int j => optB (nth fs j) fun f => (evs as ρ1).bind fun ds ρ2 => callR cf f (ds.map .val) ρ2
    | _ => .st
/-- one turn of a comprehension -/
def turnC (tg : Tg) (cd : List Sm) {α : Type} (el : Rho → R α) (x : PyData) (ρ : Rho) : R (Option α) := optB (bindTg tg x ρ) fun ρ' => (evC cd ρ').bind fun t ρ'' =>
  if t then (el ρ'').bind fun d ρ3 => optB (wipeR (tgSlots tg) ρ3) fun ρ4 => .ok (some d) ρ4 else optB (wipeR (tgSlots tg) ρ'') fun ρ4 => .ok none ρ4
/-- a walk: its operands, its items, the wiped and locked slots; then k; then unlocked -/
def walkC (tg : Tg) (ik : Ik) (ia : List Sm) {α : Type} (k : List PyData → Rho → R α) (ρ : Rho) : R α := (evK ik ia ρ).bind fun os ρ1 => optB (itemsI ρ1 ik os) fun items =>
  optB (wipeR (tgSlots tg) (lockO ρ1 os)) fun ρ2 => match k items ρ2 with
    | .ok a ρ3 => optB (unlockO ρ1 ρ3 os) fun ρ4 => .ok a ρ4
    | _ => .st
def v_cp (el : Sm) (tg : Tg) (ik : Ik) (ia cd : List Sm) : Rho → R (PyData × Bool) := walkC tg ik ia fun items ρ => (compL (turnC tg cd fun ρ => (el.v ρ).bind fun d ρ => .ok d.1 ρ) items ρ).bind fun ys ρ3 =>
  if ys.length ≤ big then .ok (.list ys, true) ρ3 else .st
def v_dc (k v : Sm) (tg : Tg) (ik : Ik) (ia cd : List Sm) : Rho → R (PyData × Bool) := walkC tg ik ia fun items ρ =>
  (dictL (turnC tg cd fun ρ => (k.v ρ).bind fun dk ρ => (v.v ρ).bind fun dv ρ => .ok (dk.1, dv.1) ρ) items [] ρ).bind fun kvs ρ3 => if kvs.length ≤ 1000 then .ok (.dict kvs, true) ρ3 else .st
def v_ls (el : Sm) (tg : Tg) (ik : Ik) (ia cd : List Sm) : Rho → R (PyData × Bool) := walkC tg ik ia fun items ρ => (compL (turnC tg cd fun ρ => (el.v ρ).bind fun d ρ => .ok d.1 ρ) items ρ).bind fun ys ρ3 =>
  optB (asStrs ys) fun ss => if ss.length ≤ 1000 then .ok (.int (dedup ss).length, false) ρ3 else .st
/-- a list's, a tuple's index -/
def isSq (tp : Bool) : PyData → Bool
  | .list _ => !tp
  | .tuple _ => tp
  | _ => false
def v_ix (tp : Bool) (a b : Sm) (ρ : Rho) : R (PyData × Bool) := (a.o ρ).bind fun oa ρ1 => optB (rdO ρ1 oa) fun da => if isSq tp da then (b.o ρ1).bind fun ob ρ2 => optB ((rdOs ρ2 [oa, ob]).bind (prim (if tp then .indexT else .index))) fun d => .ok (d, false) ρ2 else .st
def v_sk (a : Sm) (p : Nat) (key : Sm) (ρ : Rho) : R (PyData × Bool) := (a.v ρ).bind fun d ρ1 => optB (itemsOf d.1) fun items =>
  match keysL (fun x ρ => optB (setSl p (.sh x) ρ) fun ρ' => (key.v ρ').bind fun d ρ3 => optB (setSl p .no ρ3) fun ρ4 => .ok d.1 ρ4) items ρ1 with
  | .ok ks ρ2 => if sortOk ks then .ok (.list ((sortKey (ks.zip items)).map (·.2)), true) ρ2 else .st
  | _ => .st
mutual
def sem (cf : CT) : ME → Sm
  | .c d => mk fun ρ => .ok (d, false) ρ
  | .v i => ⟨valV i, tst (opdV i), some i⟩
  | .g _ d => mk fun ρ => .ok (d, false) ρ
  | .op o as => mk (v_op o (sems cf as))
  | .ch o1 o2 a b c => mk (v_ch o1 o2 (sem cf a) (sem cf b) (sem cf c))
  | .sl a lo hi => mk (v_sl (sem cf a) (sems cf lo) (sems cf hi))
  | .tu as => mk (v_tu (sems cf as))
  | .li as => mk (v_li (sems cf as))
  | .dn t => mk fun ρ => .ok (.dict (if t then [(.none, .none)] else []), true) ρ
  | .bo k as => boS k (sems cf as)
  | .nt a => ⟨v_nt (sem cf a), t_nt (sem cf a), none⟩
  | .ie c a b => ⟨v_ie (sem cf c) (sem cf a) (sem cf b), fun _ => .st, none⟩
  | .ca f as io => mk (v_ca cf f (sems cf as) io)
  | .cx fs i as => mk (v_cx cf fs (sem cf i) (sems cf as))
  | .cp el tg ik ia cd => mk (v_cp (sem cf el) tg ik (sems cf ia) (sems cf cd))
  | .dc k v tg ik ia cd => mk (v_dc (sem cf k) (sem cf v) tg ik (sems cf ia) (sems cf cd))
  | .ls el tg ik ia cd => mk (v_ls (sem cf el) tg ik (sems cf ia) (sems cf cd))
  | .sk a p key => mk (v_sk (sem cf a) p (sem cf key))
  | .ix tp a b => mk (v_ix tp (sem cf a) (sem cf b))
  | .stk => mk fun _ => .st
def sems (cf : CT) : List ME → List Sm
  | [] => []
  | m :: r => sem cf m :: sems cf r
end

/-- an owned slot changed -/
def chg (i : Nat) (f : PyData → Option PyData) (ρ : Rho) : R Fl := match ρ[i]? with
  | some (.mu t d) => optB (f d) fun d' => .ok .nx (ρ.set i (.mu t d'))
  | _ => .st
def own1 (om : List Nat) (i : Nat) (d : PyData × Bool) (ρ : Rho) : Option Rho :=
  setSl i (if om.contains i && d.2 then .mu true d.1 else .sh d.1) ρ
def own2 (om : List Nat) : List Nat → List (PyData × Bool) → Rho → Option Rho
  | [], [], ρ => some ρ
  | i :: r, d :: ds, ρ => (own1 om i d ρ).bind (own2 om r ds)
  | _, _, _ => none
def evF : List Sm → Rho → R (List (PyData × Bool))
  | [], ρ => .ok [] ρ
  | m :: r, ρ => (m.v ρ).bind fun d ρ1 => (evF r ρ1).bind fun ds ρ2 => .ok (d :: ds) ρ2
def wfuel : Nat := 100000
def augI (o : Op) (a : Int) (d : PyData) : Option PyData := match d, o with
  | .int b, .add => some (.int (a + b))
  | .int b, .sub => some (.int (a - b))
  | _, _ => none
def appI (d l : PyData) : Option PyData := match l with
  | .list xs => if xs.length < big then some (.list (xs ++ [d])) else none
  | _ => none
def extI (d l : PyData) : Option PyData := match l, d with
  | .list xs, .list ys => if xs.length + ys.length ≤ big then some (.list (xs ++ ys)) else none
  | _, _ => none
def remI (d l : PyData) : Option PyData := match l, d with
  | .list xs, .int k => (match asInts xs with
    | some _ => (match idxOf (.int k) xs with
      | some j => some (.list (xs.eraseIdx j))
      | none => none)
    | none => none)
  | _, _ => none
def putI (k d l : PyData) : Option PyData := match l with
  | .dict kvs => if (isKey k && kvs.all (fun p => isKey p.1)) && decide (kvs.length < 100000) then some (.dict (dput k d kvs)) else none
  | .list xs => (match k with
    | .int j => (ixN xs.length j).map fun n => .list (xs.set n d)
    | _ => none)
  | _ => none
def putTI (ks : List PyData) (d l : PyData) : Option PyData := match ks, l with
  | [.int a, .int b], .dict ((.none, .none) :: r) => if r.length < 100000 then some (.dict ((.none, .none) :: dput (.tuple [.int a, .int b]) d r)) else none
  | _, _ => none
/-- the refusals, in the order in which _law_which asks for them -/
def exNames : List Str := ["NoDrawing", "NoPart", "NoBook", "NoJob", "NoSite", "NoPlan", "NoStarts", "NoOrder", "TooMany", "NoEvents", "NoChange", "NotStanding", "NoLog", "NoText", "Busy", "Nothing"]
def exIx (c : Str) : Option Nat := let n := exNames.idxOf c; if n < 16 then some n else none
/-- a refusal is told by its number -/
def tryR : R Fl → R Fl
  | .ok f ρ => .ok f ρ
  | .ex c ρ => (match exIx c with
    | some n => .ok (.rt (.tuple [.str "refused", .int (n : Nat)]) false) ρ
    | none => .st)
  | .st => .st
mutual
def x1 (cf : CT) (om : List Nat) : MS → Rho → R Fl
  | .asg (.n i) e, ρ => ((sem cf e).v ρ).bind fun d ρ1 => optB (own1 om i d ρ1) fun ρ2 => .ok .nx ρ2
  | .asg t e, ρ => ((sem cf e).v ρ).bind fun d ρ1 => optB (bindTg t d.1 ρ1) fun ρ2 => .ok .nx ρ2
  | .par ts es, ρ => (evF (sems cf es) ρ).bind fun ds ρ1 => optB (own2 om ts ds ρ1) fun ρ2 => .ok .nx ρ2
  | .aug i o e, ρ => match ρ[i]? with
    | some (.sh (.int a)) => ((sem cf e).v ρ).bind fun d ρ1 => optB (augI o a d.1) fun z => optB (setSl i (.sh z) ρ1) fun ρ2 => .ok .nx ρ2
    | _ => .st
  | .app i e, ρ => match ρ[i]? with
    | some (.mu _ (.list _)) => ((sem cf e).v ρ).bind fun d ρ1 => chg i (appI d.1) ρ1
    | _ => .st
  | .ext i e, ρ => match ρ[i]? with
    | some (.mu _ (.list _)) => ((sem cf e).v ρ).bind fun d ρ1 => chg i (extI d.1) ρ1
    | _ => .st
  | .rem i e, ρ => match ρ[i]? with
    | some (.mu _ (.list _)) => ((sem cf e).v ρ).bind fun d ρ1 => chg i (remI d.1) ρ1
    | _ => .st
  | .put i k e, ρ => ((sem cf e).v ρ).bind fun d ρ1 => match ρ1[i]? with
    | some (.mu _ _) => ((sem cf k).v ρ1).bind fun dk ρ2 => chg i (putI dk.1 d.1) ρ2
    | _ => .st
  | .putT i ka kb e, ρ => ((sem cf e).v ρ).bind fun d ρ1 => match ρ1[i]? with
    | some (.mu _ _) => (evs [sem cf ka, sem cf kb] ρ1).bind fun ks ρ2 => chg i (putTI ks d.1) ρ2
    | _ => .st
  | .ret (.v i), ρ => match ρ[i]? with
    | some (.mu true d) => if frzOk d = true then .ok (.rt d true) (ρ.set i .no) else .st
    | some (.sh d) => .ok (.rt d false) ρ
    | _ => .st
  | .ret e, ρ => ((sem cf e).v ρ).bind fun d ρ1 => .ok (.rt d.1 d.2) ρ1
  | .ite c a b, ρ => ((sem cf c).t ρ).bind fun t ρ1 => if t then xs cf om a ρ1 else xs cf om b ρ1
  | .forr tg ik ia b, ρ => (evK ik (sems cf ia) ρ).bind fun os ρ1 => optB (itemsI ρ1 ik os) fun items =>
      match forL (fun x ρ => optB (bindTg tg x ρ) fun ρ' => xs cf om b ρ') items (lockO ρ1 os) with
      | .ok .nx ρ2 => optB (unlockO ρ1 ρ2 os) fun ρ3 => .ok .nx ρ3
      | .ok (.rt d fr) ρ2 => optB (unlockO ρ1 ρ2 os) fun ρ3 => .ok (.rt d fr) ρ3
      | .ex c ρ2 => .ex c ρ2
      | .st => .st
  | .wh c b, ρ => whileL (sem cf c).t (xs cf om b) wfuel ρ
  | .rai c, ρ => .ex c ρ
  | .exp e, ρ => ((sem cf e).v ρ).bind fun _ ρ1 => .ok .nx ρ1
  | .pass, ρ => .ok .nx ρ
  | .tryW b _ _, ρ => tryR (xs cf om b ρ)
  | .stk, _ => .st
def xs (cf : CT) (om : List Nat) : List MS → Rho → R Fl
  | [], ρ => .ok .nx ρ
  | s :: r, ρ => (x1 cf om s ρ).bind fun f ρ1 => match f with
    | .nx => xs cf om r ρ1
    | f => .ok f ρ1
end
structure MDef where
  io : List Bool
  ns : Nat
  om : List Nat
  body : List MS
def argOk : List Bool → Rho → Bool
  | [], [] => true
  | true :: bs, .mu false _ :: r => argOk bs r
  | false :: bs, .sh _ :: r => argOk bs r
  | _, _ => false
def outOk : List Bool → Rho → Bool
  | [], _ => true
  | true :: bs, .mu false _ :: r => outOk bs r
  | false :: bs, _ :: r => outOk bs r
  | _, _ => false
def runD (cf : CT) (m : MDef) (as : Rho) : CR :=
  if argOk m.io as then match xs cf m.om m.body (as ++ List.replicate (m.ns - m.io.length) .no) with
    | .ok .nx ρ => if outOk m.io ρ then .ok .none false (ρ.take m.io.length) else .st
    | .ok (.rt d fr) ρ => if outOk m.io ρ then .ok d fr (ρ.take m.io.length) else .st
    | .ex c ρ => if outOk m.io ρ then .ex c (ρ.take m.io.length) else .st
    | .st => .st
  else .st
def run (T : Str → Option MDef) : Nat → CT
  | 0 => fun _ _ => .st
  | k + 1 => fun f as => match T f with
    | some m => runD (run T k) m as
    | none => .st
end MP
end
section
set_option Elab.async false
set_option linter.all false
set_option autoImplicit false
set_option maxRecDepth 100000
set_option maxHeartbeats 4000001
namespace MP
open PySem.Spec PyProof.Rows L2 PySem

def keyD : Key → PyData
  | .inl i => .int i
  | .inr x => .str x
/-- a list of the module (the script may be one) -/
def KL (K : PySem.W.Frag) (a : Addr) (xs : List V) : Prop := ∃ (its : List Value) (n : Nat), K.lookup a = some { cls := .type "list", data := .seq its.toArray n } ∧ its.length ≤ sizeLine ∧ Vals xs its
/-- a list that is read -/
def Ls (K : PySem.W.Frag) (H : Hp) (a : Addr) (xs : List V) : Prop := Rd H a (.lst xs) ∨ KL K a xs
theorem Ls.sq {K : PySem.W.Frag} {H : Hp} {a : Addr} {xs : List V} (h : Ls K H a xs) : SqL K H a xs := by
  rcases h with h | ⟨its, n, h, hl, r⟩
  · exact .inl h
  · exact .inr ⟨_, its.toArray, n, h, rfl, rfl, rfl, by rw [List.size_toArray]; exact hl, r⟩
def LsG (K : PySem.W.Frag) (S : List Addr) (H : Hp) (a : Addr) (xs : List V) : Prop := (a ∉ S ∧ Rd H a (.lst xs)) ∨ KL K a xs
theorem LsG.ls {K : PySem.W.Frag} {S : List Addr} {H : Hp} {a : Addr} {xs : List V} (h : LsG K S H a xs) : Ls K H a xs := h.imp (fun h => h.2) fun h => h
mutual
/-- the value v is the datum d in the heap H, and no list or dict of it stands at an address of S -/
def Good (K : PySem.W.Frag) (S : List Addr) (H : Hp) : PyData → V → Prop
  | .none, v => v = .non
  | .bool b, v => v = .bl b
  | .int i, v => v = .int i
  | .str x, v => v = .str x
  | .list ds, v => ∃ a vs, v = .ref a ∧ LsG K S H a vs ∧ GoodL K S H ds vs
  | .tuple ds, v => ∃ a vs, v = .ref a ∧ SqT K H a vs ∧ GoodL K S H ds vs
  | .dict ds, v => ∃ a, v = .ref a ∧ a ∉ S ∧ ((∃ ks, Rd H a (.dK ks) ∧ GoodK K S H ds ks) ∨ GoodH K S H ds a)
def GoodL (K : PySem.W.Frag) (S : List Addr) (H : Hp) : List PyData → List V → Prop
  | [], vs => vs = []
  | d :: ds, vs => ∃ v r, vs = v :: r ∧ Good K S H d v ∧ GoodL K S H ds r
def GoodK (K : PySem.W.Frag) (S : List Addr) (H : Hp) : List (PyData × PyData) → List (Key × V) → Prop
  | [], ks => ks = []
  | (k, d) :: ds, ks => ∃ q v r, ks = (q, v) :: r ∧ k = keyD q ∧ Good K S H d v ∧ GoodK K S H ds r
def GoodT (K : PySem.W.Frag) (S : List Addr) (H : Hp) : List (PyData × PyData) → List (List Key × V) → Prop
  | [], ks => ks = []
  | (k, d) :: ds, ks => ∃ q v r, ks = (q, v) :: r ∧ k = .tuple (q.map keyD) ∧ Good K S H d v ∧ GoodT K S H ds r
/-- a dict of tuple keys: its data have a head -/
def GoodH (K : PySem.W.Frag) (S : List Addr) (H : Hp) : List (PyData × PyData) → Addr → Prop
  | [], _ => False
  | (k, d) :: ds, a => k = .none ∧ d = .none ∧ ∃ ks, H a = some (.dT ks) ∧ GoodT K S H ds ks
end
/-- what stands at an owned address -/
def Cont (K : PySem.W.Frag) (S : List Addr) (H : Hp) (a : Addr) : PyData → Prop
  | .list ds => ∃ vs, H a = some (.lst vs) ∧ GoodL K S H ds vs
  | .dict ds => (∃ ks, H a = some (.dK ks) ∧ GoodK K S H ds ks) ∨ GoodH K S H ds a
  | _ => False
def MutO : HO → Prop
  | .lst _ | .dK _ | .dT _ | .ext _ => True
  | _ => False
theorem GoodH.at {K : PySem.W.Frag} {S : List Addr} {H : Hp} {a : Addr} {ds : List (PyData × PyData)} (h : GoodH K S H ds a) : ∃ r ks, ds = (.none, .none) :: r ∧ H a = some (.dT ks) ∧ GoodT K S H r ks := by
  cases ds with
  | nil => simp only [GoodH] at h
  | cons p r =>
    obtain ⟨k, d⟩ := p
    simp only [GoodH] at h
    obtain ⟨e1, e2, ks, hk, g⟩ := h
    subst e1 e2
    exact ⟨r, ks, rfl, hk, g⟩
theorem GoodH.of {K : PySem.W.Frag} {S : List Addr} {H : Hp} {a : Addr} {r : List (PyData × PyData)} {ks : List (List Key × V)} (hk : H a = some (.dT ks)) (g : GoodT K S H r ks) : GoodH K S H ((.none, .none) :: r) a := by
  simp only [GoodH]
  exact ⟨trivial, trivial, ks, hk, g⟩
theorem Cont.mut {K : PySem.W.Frag} {S : List Addr} {H : Hp} {a : Addr} : ∀ {d : PyData}, Cont K S H a d → ∃ o, H a = some o ∧ MutO o
  | .list _, ⟨_, h, _⟩ => ⟨_, h, trivial⟩
  | .dict _, .inl ⟨_, h, _⟩ => ⟨_, h, trivial⟩
  | .dict _, .inr h => by
    obtain ⟨_, _, _, h, _⟩ := h.at
    exact ⟨_, h, trivial⟩
/-- a change of the heap that leaves what is not of M (and not of mutable kind) -/
structure Chg (S S' : List Addr) (H H' : Hp) (M : Addr → Prop) : Prop where
  keep : ∀ a o, H a = some o → ¬ M a → H' a = some o
  mem : ∀ a, M a → a ∈ S ∧ ∃ o, H a = some o ∧ MutO o
  sub : ∀ a, a ∈ S' → a ∈ S ∨ H a = none
section
variable {K : PySem.W.Frag} {S S' : List Addr} {H H' : Hp} {M : Addr → Prop}
theorem Chg.rd (c : Chg S S' H H' M) {a : Addr} {u : HO} (h : Rd H a u) (hn : a ∉ S) : Rd H' a u ∧ a ∉ S' := by
  have nm : ¬ M a := fun m => hn (c.mem a m).1
  have dom : H a ≠ none := by
    rcases h with h | ⟨o, h⟩ <;> rw [h] <;> exact fun e => nomatch e
  refine ⟨?_, fun m => ?_⟩
  · rcases h with h | ⟨o, h⟩
    · exact .inl (c.keep _ _ h nm)
    · exact .inr ⟨o, c.keep _ _ h nm⟩
  · rcases c.sub a m with q | q
    · exact hn q
    · exact dom q
theorem Chg.tup (c : Chg S S' H H' M) {a : Addr} {vs : List V} (h : SqT K H a vs) : SqT K H' a vs := by
  rcases h with (h | ⟨fz, h⟩) | h
  · refine .inl (.inl (c.keep _ _ h fun m => ?_))
    obtain ⟨_, o, e, q⟩ := c.mem a m
    rw [h] at e
    cases e
    exact q
  · refine .inl (.inr ⟨fz, c.keep _ _ h fun m => ?_⟩)
    obtain ⟨_, o', e, q⟩ := c.mem a m
    rw [h] at e
    cases e
    exact q
  · exact .inr h
mutual
theorem Good.chg (c : Chg S S' H H' M) : ∀ (d : PyData) (v : V), Good K S H d v → Good K S' H' d v
  | .none, _, h => h
  | .bool _, _, h => h
  | .int _, _, h => h
  | .str _, _, h => h
  | .list ds, v, h => by
    simp only [Good] at h ⊢
    obtain ⟨a, vs, e, hr, hg⟩ := h
    exact ⟨a, vs, e, hr.imp (fun h => ⟨(c.rd h.2 h.1).2, (c.rd h.2 h.1).1⟩) (fun h => h), GoodL.chg c ds vs hg⟩
  | .tuple ds, v, h => by
    simp only [Good] at h ⊢
    obtain ⟨a, vs, e, ht, hg⟩ := h
    exact ⟨a, vs, e, c.tup ht, GoodL.chg c ds vs hg⟩
  | .dict ds, v, h => by
    simp only [Good] at h ⊢
    obtain ⟨a, e, hn, hh⟩ := h
    refine ⟨a, e, ?_⟩
    rcases hh with ⟨ks, hr, hg⟩ | hh
    · exact ⟨(c.rd hr hn).2, .inl ⟨ks, (c.rd hr hn).1, GoodK.chg c ds ks hg⟩⟩
    · obtain ⟨_, ks, _, hr, _⟩ := hh.at
      exact ⟨(c.rd (.inl hr) hn).2, .inr (GoodH.chg c ds a (fun m => hn (c.mem a m).1) hh)⟩
theorem GoodL.chg (c : Chg S S' H H' M) : ∀ (ds : List PyData) (vs : List V), GoodL K S H ds vs → GoodL K S' H' ds vs
  | [], _, h => by
    simp only [GoodL] at h ⊢
    exact h
  | d :: ds, vs, h => by
    simp only [GoodL] at h ⊢
    obtain ⟨v, r, e, h1, h2⟩ := h
    exact ⟨v, r, e, Good.chg c d v h1, GoodL.chg c ds r h2⟩
theorem GoodK.chg (c : Chg S S' H H' M) : ∀ (ds : List (PyData × PyData)) (ks : List (Key × V)), GoodK K S H ds ks → GoodK K S' H' ds ks
  | [], _, h => by
    simp only [GoodK] at h ⊢
    exact h
  | (k, d) :: ds, ks, h => by
    simp only [GoodK] at h ⊢
    obtain ⟨q, v, r, e, ek, h1, h2⟩ := h
    exact ⟨q, v, r, e, ek, Good.chg c d v h1, GoodK.chg c ds r h2⟩
theorem GoodT.chg (c : Chg S S' H H' M) : ∀ (ds : List (PyData × PyData)) (ks : List (List Key × V)), GoodT K S H ds ks → GoodT K S' H' ds ks
  | [], _, h => by
    simp only [GoodT] at h ⊢
    exact h
  | (k, d) :: ds, ks, h => by
    simp only [GoodT] at h ⊢
    obtain ⟨q, v, r, e, ek, h1, h2⟩ := h
    exact ⟨q, v, r, e, ek, Good.chg c d v h1, GoodT.chg c ds r h2⟩
theorem GoodH.chg (c : Chg S S' H H' M) : ∀ (ds : List (PyData × PyData)) (a : Addr), ¬ M a → GoodH K S H ds a → GoodH K S' H' ds a
  | [], _, _, h => by
    simp only [GoodH] at h
  | (k, d) :: ds, a, n, h => by
    simp only [GoodH] at h ⊢
    obtain ⟨e1, e2, ks, hk, g⟩ := h
    exact ⟨e1, e2, ks, c.keep _ _ hk n, GoodT.chg c ds ks g⟩
end
/-- an owned thing that is left as it is -/
theorem Cont.chg (c : Chg S S' H H' M) {a : Addr} (hm : ¬ M a) : ∀ {d : PyData}, Cont K S H a d → Cont K S' H' a d
  | .list ds, ⟨vs, h, g⟩ => ⟨vs, c.keep _ _ h hm, GoodL.chg c ds vs g⟩
  | .dict ds, .inl ⟨ks, h, g⟩ => .inl ⟨ks, c.keep _ _ h hm, GoodK.chg c ds ks g⟩
  | .dict ds, .inr h => .inr (GoodH.chg c ds a hm h)
/-- the heap grows, or stays -/
theorem Chg.same (e : Same H H') : Chg S S H H' (fun _ => False) := ⟨fun a o h _ => e a o h, fun _ h => h.elim, fun _ h => .inl h⟩
theorem Good.same (e : Same H H') {d : PyData} {v : V} (h : Good K S H d v) : Good K S H' d v := Good.chg (Chg.same e) d v h
theorem GoodL.same (e : Same H H') {d : List PyData} {v : List V} (h : GoodL K S H d v) : GoodL K S H' d v := GoodL.chg (Chg.same e) d v h
/-- fewer addresses to be met -/
theorem Chg.less (h : ∀ a, a ∈ S' → a ∈ S) : Chg S S' H H (fun _ => False) := ⟨fun _ _ h _ => h, fun _ h => h.elim, fun a m => .inl (h a m)⟩
theorem Good.less (h : ∀ a, a ∈ S' → a ∈ S) {d : PyData} {v : V} (g : Good K S H d v) : Good K S' H d v := Good.chg (Chg.less h) d v g
end
/-- a new list or dict at p, its parts met by nothing at p -/
def Frs (K : PySem.W.Frag) (S : List Addr) (H0 : Hp) (H : Hp) (d : PyData) (v : V) : Prop := ∃ p, v = .ref p ∧ H0 p = none ∧ p ∉ S ∧ Cont K (p :: S) H p d
/-- readable by an operation: shared, or an owned thing's top -/
def GoodB (K : PySem.W.Frag) (S : List Addr) (H : Hp) (d : PyData) (v : V) : Prop := Good K S H d v ∨ ∃ a, v = .ref a ∧ Cont K S H a d
theorem Good.b {K : PySem.W.Frag} {S : List Addr} {H : Hp} {d : PyData} {v : V} (h : Good K S H d v) : GoodB K S H d v := .inl h
def GoodBs (K : PySem.W.Frag) (S : List Addr) (H : Hp) : List PyData → List V → Prop
  | [], vs => vs = []
  | d :: ds, vs => ∃ v r, vs = v :: r ∧ GoodB K S H d v ∧ GoodBs K S H ds r
/-! ### what an operation reads -/
section
variable {K : PySem.W.Frag} {S : List Addr} {H : Hp} {v : V}
theorem GoodB.none (h : GoodB K S H .none v) : v = .non := by
  rcases h with h | ⟨_, _, h⟩
  · simpa only [Good] using h
  · exact h.elim
theorem GoodB.bool {b : Bool} (h : GoodB K S H (.bool b) v) : v = .bl b := by
  rcases h with h | ⟨_, _, h⟩
  · simpa only [Good] using h
  · exact h.elim
theorem GoodB.int {i : Int} (h : GoodB K S H (.int i) v) : v = .int i := by
  rcases h with h | ⟨_, _, h⟩
  · simpa only [Good] using h
  · exact h.elim
theorem GoodB.str {x : Str} (h : GoodB K S H (.str x) v) : v = .str x := by
  rcases h with h | ⟨_, _, h⟩
  · simpa only [Good] using h
  · exact h.elim
theorem GoodB.list {ds : List PyData} (h : GoodB K S H (.list ds) v) : ∃ a vs, v = .ref a ∧ Ls K H a vs ∧ GoodL K S H ds vs := by
  rcases h with h | ⟨a, e, h⟩
  · simp only [Good] at h
    obtain ⟨a, vs, e, hr, hg⟩ := h
    exact ⟨a, vs, e, hr.ls, hg⟩
  · obtain ⟨vs, hr, hg⟩ := h
    exact ⟨a, vs, e, .inl (.inl hr), hg⟩
theorem GoodB.tuple {ds : List PyData} (h : GoodB K S H (.tuple ds) v) : ∃ a vs, v = .ref a ∧ SqT K H a vs ∧ GoodL K S H ds vs := by
  rcases h with h | ⟨a, e, h⟩
  · simpa only [Good] using h
  · exact h.elim
theorem GoodB.dict {ds : List (PyData × PyData)} (h : GoodB K S H (.dict ds) v) : ∃ a, v = .ref a ∧ ((∃ ks, Rd H a (.dK ks) ∧ GoodK K S H ds ks) ∨ ∃ r ks, ds = (.none, .none) :: r ∧ H a = some (.dT ks) ∧ GoodT K S H r ks) := by
  rcases h with h | ⟨a, e, h⟩
  · simp only [Good] at h
    obtain ⟨a, e, _, hh⟩ := h
    exact ⟨a, e, hh.imp id fun q => q.at⟩
  · refine ⟨a, e, ?_⟩
    rcases h with ⟨ks, hk, g⟩ | h
    · exact .inl ⟨ks, .inl hk, g⟩
    · exact .inr h.at
theorem GoodL.length : ∀ {ds : List PyData} {vs : List V}, GoodL K S H ds vs → vs.length = ds.length
  | [], vs, h => by
    simp only [GoodL] at h
    subst h
    rfl
  | d :: ds, vs, h => by
    simp only [GoodL] at h
    obtain ⟨v, r, e, _, h2⟩ := h
    rw [e, List.length_cons, List.length_cons, GoodL.length h2]
theorem GoodL.get : ∀ {ds : List PyData} {vs : List V} {i : Nat} {d : PyData}, GoodL K S H ds vs → ds[i]? = some d → ∃ v, vs[i]? = some v ∧ Good K S H d v
  | [], _, _, _, _, h => by (simp at h)
  | d :: ds, vs, 0, d', g, h => by
    simp only [GoodL] at g
    obtain ⟨v, r, e, h1, _⟩ := g
    simp at h
    subst h
    exact ⟨v, by rw [e]; rfl, h1⟩
  | d :: ds, vs, i + 1, d', g, h => by
    simp only [GoodL] at g
    obtain ⟨v, r, e, _, h2⟩ := g
    obtain ⟨u, hu, gu⟩ := GoodL.get (i := i) h2 (by simpa using h)
    exact ⟨u, by rw [e]; simpa using hu, gu⟩
theorem GoodL.append : ∀ {ds es : List PyData} {vs us : List V}, GoodL K S H ds vs → GoodL K S H es us → GoodL K S H (ds ++ es) (vs ++ us)
  | [], es, vs, us, g, h => by
    simp only [GoodL] at g
    rw [g]
    exact h
  | d :: ds, es, vs, us, g, h => by
    simp only [GoodL] at g
    obtain ⟨v, r, e, h1, h2⟩ := g
    rw [e, List.cons_append, List.cons_append]
    simp only [GoodL]
    exact ⟨v, _, rfl, h1, GoodL.append h2 h⟩
theorem GoodL.take : ∀ {ds : List PyData} {vs : List V} (n : Nat), GoodL K S H ds vs → GoodL K S H (ds.take n) (vs.take n)
  | _, _, 0, _ => by simp only [List.take_zero, GoodL]
  | [], vs, n + 1, g => by
    simp only [GoodL] at g
    rw [g]
    simp only [List.take_nil, GoodL]
  | d :: ds, vs, n + 1, g => by
    simp only [GoodL] at g
    obtain ⟨v, r, e, h1, h2⟩ := g
    rw [e, List.take_succ_cons, List.take_succ_cons]
    simp only [GoodL]
    exact ⟨v, _, rfl, h1, GoodL.take n h2⟩
theorem GoodL.drop : ∀ {ds : List PyData} {vs : List V} (n : Nat), GoodL K S H ds vs → GoodL K S H (ds.drop n) (vs.drop n)
  | _, _, 0, g => g
  | [], vs, n + 1, g => by
    simp only [GoodL] at g
    rw [g]
    simp only [List.drop_nil, GoodL]
  | d :: ds, vs, n + 1, g => by
    simp only [GoodL] at g
    obtain ⟨v, r, e, h1, h2⟩ := g
    rw [e, List.drop_succ_cons, List.drop_succ_cons]
    exact GoodL.drop n h2
theorem GoodL.nil : GoodL K S H [] [] := by simp only [GoodL]
theorem GoodL.cons {d : PyData} {ds : List PyData} {v : V} {vs : List V} (h : Good K S H d v) (g : GoodL K S H ds vs) : GoodL K S H (d :: ds) (v :: vs) := by
  simp only [GoodL]
  exact ⟨v, vs, rfl, h, g⟩
theorem GoodL.set : ∀ {ds : List PyData} {vs : List V} {d : PyData} {v : V} (n : Nat), GoodL K S H ds vs → Good K S H d v → GoodL K S H (ds.set n d) (vs.set n v)
  | [], vs, _, _, n, g, _ => by
    simp only [GoodL] at g
    rw [g]
    simp only [List.set_nil, GoodL]
  | d :: ds, vs, _, _, 0, g, h => by
    simp only [GoodL] at g
    obtain ⟨v, r, e, h1, h2⟩ := g
    rw [e, List.set_cons_zero, List.set_cons_zero]
    exact .cons h h2
  | d :: ds, vs, _, _, n + 1, g, h => by
    simp only [GoodL] at g
    obtain ⟨v, r, e, h1, h2⟩ := g
    rw [e, List.set_cons_succ, List.set_cons_succ]
    exact .cons h1 (GoodL.set n h2 h)
end
/-! ### the slots -/
def isMu : Sl → Bool
  | .mu _ _ | .lk _ _ => true
  | _ => false
/-- the slots' data: H0 the heap at the def's entry -/
structure EnvOk (K : PySem.W.Frag) (H0 : Hp) (S : List Addr) (σ : L2.St) (H : Hp) (ρ : Rho) : Prop where
  len : ρ.length = σ.length
  sh : ∀ (i : Nat) d, ρ[i]? = some (.sh d) → ∃ v, σ[i]? = some (some v) ∧ Good K S H d v
  mu : ∀ (i : Nat) t d, (ρ[i]? = some (.mu t d) ∨ ρ[i]? = some (.lk t d)) → ∃ a, σ[i]? = some (some (.ref a)) ∧ a ∈ S ∧ Cont K S H a d ∧ (t = true → H0 a = none)
  apart : ∀ (i j : Nat) s t a, i ≠ j → ρ[i]? = some s → ρ[j]? = some t → isMu s = true → isMu t = true → σ[i]? = some (some (.ref a)) → σ[j]? = some (some (.ref a)) → False
  dom : ∀ a, a ∈ S → H a ≠ none
  ent : ∀ a, H0 a ≠ none → H a ≠ none
/-- the addresses that may change -/
def MA (σ : L2.St) (ρ : Rho) (a : Addr) : Prop := ∃ (i : Nat) (t : Bool) (d : PyData), ρ[i]? = some (.mu t d) ∧ σ[i]? = some (some (.ref a))
/-- the addresses of owned slots -/
def OA (σ : L2.St) (ρ : Rho) (a : Addr) : Prop := ∃ (i : Nat) (s : Sl), ρ[i]? = some s ∧ isMu s = true ∧ σ[i]? = some (some (.ref a))
/-- lent by the caller -/
def isIo : Sl → Bool
  | .mu false _ | .lk false _ => true
  | _ => false
/-- from one state of a def to a later one -/
structure Evo (K : PySem.W.Frag) (H0 : Hp) (σ : L2.St) (S : List Addr) (H : Hp) (ρ : Rho) (σ' : L2.St) (S' : List Addr) (H' : Hp) (ρ' : Rho) : Prop where
  keep : ∀ a o, H a = some o → ¬ MA σ ρ a → H' a = some o
  sub : ∀ a, a ∈ S' → a ∈ S ∨ H a = none
  old : ∀ a, a ∈ S → H0 a ≠ none → a ∈ S'
  mono : ∀ a, MA σ' ρ' a → MA σ ρ a ∨ H a = none
  ow : ∀ a, OA σ' ρ' a → OA σ ρ a ∨ H a = none
  io : ∀ (i : Nat) s, ρ[i]? = some s → isIo s = true → σ'[i]? = σ[i]? ∧ ∃ s', ρ'[i]? = some s' ∧ isIo s' = true
  there : ∀ a, H a ≠ none → H' a ≠ none
  lk : ∀ (i : Nat) t d, ρ[i]? = some (.lk t d) → ρ'[i]? = some (.lk t d) ∧ σ'[i]? = σ[i]?
  env : EnvOk K H0 S' σ' H' ρ'
section
variable {K : PySem.W.Frag} {H0 : Hp} {σ σ1 σ2 : L2.St} {S S1 S2 : List Addr} {H H1 H2 : Hp} {ρ ρ1 ρ2 : Rho}
theorem Evo.refl (e : EnvOk K H0 S σ H ρ) : Evo K H0 σ S H ρ σ S H ρ :=
  ⟨fun _ _ h _ => h, fun _ h => .inl h, fun _ h _ => h, fun _ h => .inl h, fun _ h => .inl h, fun _ s h m => ⟨rfl, s, h, m⟩, fun _ h => h, fun _ _ _ h => ⟨h, rfl⟩, e⟩
theorem Evo.trans (a : Evo K H0 σ S H ρ σ1 S1 H1 ρ1) (b : Evo K H0 σ1 S1 H1 ρ1 σ2 S2 H2 ρ2) : Evo K H0 σ S H ρ σ2 S2 H2 ρ2 where
  keep := fun x o h n => b.keep x o (a.keep x o h n) fun m => by
    rcases a.mono x m with q | q
    · exact n q
    · rw [h] at q; cases q
  sub := fun x m => by
    rcases b.sub x m with q | q
    · exact a.sub x q
    · by_cases h : H x = none
      · exact .inr h
      · exact absurd q (a.there x h)
  old := fun x m h => b.old x (a.old x m h) h
  mono := fun x m => by
    rcases b.mono x m with q | q
    · exact a.mono x q
    · by_cases h : H x = none
      · exact .inr h
      · exact absurd q (a.there x h)
  ow := fun x m => by
    rcases b.ow x m with q | q
    · exact a.ow x q
    · by_cases h : H x = none
      · exact .inr h
      · exact absurd q (a.there x h)
  io := fun i s h m => by
    obtain ⟨e1, s1, h1, m1⟩ := a.io i s h m
    obtain ⟨e2, s2, h2, m2⟩ := b.io i s1 h1 m1
    exact ⟨e2.trans e1, s2, h2, m2⟩
  there := fun x h => b.there x (a.there x h)
  lk := fun i t d h => by
    obtain ⟨h1, e1⟩ := a.lk i t d h
    obtain ⟨h2, e2⟩ := b.lk i t d h1
    exact ⟨h2, e2.trans e1⟩
  env := b.env
theorem EnvOk.ma (e : EnvOk K H0 S σ H ρ) {a : Addr} (m : MA σ ρ a) : a ∈ S ∧ ∃ o, H a = some o ∧ MutO o := by
  obtain ⟨i, t, d, h, hs⟩ := m
  obtain ⟨b, hb, hS, hc, _⟩ := e.mu i t d (.inl h)
  rw [hs] at hb
  cases hb
  exact ⟨hS, hc.mut⟩
theorem Evo.chg (e : EnvOk K H0 S σ H ρ) (a : Evo K H0 σ S H ρ σ1 S1 H1 ρ1) : Chg S S1 H H1 (MA σ ρ) := ⟨a.keep, fun _ m => e.ma m, a.sub⟩
theorem Evo.good (a : Evo K H0 σ S H ρ σ1 S1 H1 ρ1) (e : EnvOk K H0 S σ H ρ) {d : PyData} {v : V} (g : Good K S H d v) : Good K S1 H1 d v := Good.chg (a.chg e) d v g
theorem Evo.goodL (a : Evo K H0 σ S H ρ σ1 S1 H1 ρ1) (e : EnvOk K H0 S σ H ρ) {d : List PyData} {v : List V} (g : GoodL K S H d v) : GoodL K S1 H1 d v := GoodL.chg (a.chg e) d v g
theorem there_of_keep (e : EnvOk K H0 S σ H ρ) (keep : ∀ a o, H a = some o → ¬ MA σ ρ a → H1 a = some o) (e1 : EnvOk K H0 S1 σ H1 ρ1) : True := trivial
/-- nothing but new objects -/
theorem EnvOk.same (e : EnvOk K H0 S σ H ρ) (s : Same H H1) : EnvOk K H0 S σ H1 ρ where
  len := e.len
  sh := fun i d h => by
    obtain ⟨v, hv, g⟩ := e.sh i d h
    exact ⟨v, hv, g.same s⟩
  mu := fun i t d h => by
    obtain ⟨a, hv, hS, hc, hf⟩ := e.mu i t d h
    exact ⟨a, hv, hS, Cont.chg (Chg.same s) (fun h => h) hc, hf⟩
  apart := e.apart
  dom := fun a m h => by
    cases q : H a with
    | none => exact e.dom a m q
    | some o => rw [s a o q] at h; cases h
  ent := fun a m h => by
    cases q : H a with
    | none => exact e.ent a m q
    | some o => rw [s a o q] at h; cases h
theorem same_there {H H1 : Hp} (s : Same H H1) (a : Addr) (h : H a ≠ none) : H1 a ≠ none := fun q => by
  cases z : H a with
  | none => exact h z
  | some o => exact nomatch (s a o z).symm.trans q
theorem Evo.same (e : EnvOk K H0 S σ H ρ) (s : Same H H1) : Evo K H0 σ S H ρ σ S H1 ρ :=
  ⟨fun a o h _ => s a o h, fun _ h => .inl h, fun _ h _ => h, fun _ h => .inl h, fun _ h => .inl h, fun _ s h m => ⟨rfl, s, h, m⟩, same_there s, fun _ _ _ h => ⟨h, rfl⟩, e.same s⟩
/-- one address more, that is new -/
theorem EnvOk.more (e : EnvOk K H0 S σ H ρ) (s : Same H H1) {p : Addr} (hp : H p = none) (hq : H1 p ≠ none) : EnvOk K H0 (p :: S) σ H1 ρ := by
  have c : Chg S (p :: S) H H1 (fun _ => False) := ⟨fun a o h _ => s a o h, fun _ h => h.elim, fun a m => by
    rcases List.mem_cons.mp m with h | h
    · exact .inr (h ▸ hp)
    · exact .inl h⟩
  have e1 := e.same s
  exact ⟨e.len, fun i d h => let ⟨v, hv, g⟩ := e.sh i d h; ⟨v, hv, Good.chg c d v g⟩, fun i t d h => let ⟨a, ha, hS, hc, hf⟩ := e.mu i t d h; ⟨a, ha, List.mem_cons_of_mem _ hS, Cont.chg c (fun h => h) hc, hf⟩, e.apart, fun a m => by
    rcases List.mem_cons.mp m with h | h
    · exact h ▸ hq
    · exact e1.dom a h, e1.ent⟩
theorem Evo.ent (a : Evo K H0 σ S H ρ σ1 S1 H1 ρ1) (e : EnvOk K H0 S σ H ρ) {p : Addr} (h : H p = none) : H0 p = none := by
  by_cases q : H0 p = none
  · exact q
  · exact absurd h (e.ent p q)
end
end MP
end
section
set_option Elab.async false
set_option linter.all false
set_option autoImplicit false
set_option maxRecDepth 100000
set_option maxHeartbeats 4000001
/-! PROVENANCE of MiniOps: parts of this text began as rows of the library's HandS/List and were then rewritten; the plan is the library's -/
namespace MP
open PySem.Spec PyProof.Rows L2 PySem

theorem big_eq : big = sizeLine := by decide
abbrev Dom (S : List Addr) (H : Hp) : Prop := ∀ a, a ∈ S → H a ≠ none
/-- what is wanted of an operation's end -/
def PostV (K : PySem.W.Frag) (S : List Addr) (H : Hp) (fr : Bool) (d : PyData) (Q : VK) : Prop :=
  ∀ v H', Same H H' → Good K S H' d v → (fr = true → Frs K S H H' d v) → Q v H'
theorem same_upd {o : HO} {H : Hp} {p : Addr} (h : H p = none) : Same H (upd H p o) := fun b x e => by
  rw [upd_ne (ne_of_none e h)]
  exact e
section
variable {K : PySem.W.Frag} {S : List Addr} {H : Hp} {fr : Bool} {Q : VK}
theorem PostV.at {d : PyData} {v : V} (h : PostV K S H false d Q) (g : Good K S H d v) : Q v H := h v H (Same.refl H) g (fun q => nomatch q)
theorem PostV.int {i : Int} (h : PostV K S H false (.int i) Q) : Q (.int i) H := h.at (by simp only [Good])
theorem PostV.bool {b : Bool} (h : PostV K S H false (.bool b) Q) : Q (.bl b) H := h.at (by simp only [Good])
theorem PostV.str {x : Str} (h : PostV K S H false (.str x) Q) : Q (.str x) H := h.at (by simp only [Good])
theorem Dom.new (hd : Dom S H) {p : Addr} (hp : H p = none) : p ∉ S := fun m => hd p m hp
theorem goodL_new {ds : List PyData} {vs : List V} {p : Addr} {o : HO} (hp : H p = none) (g : GoodL K S H ds vs) : GoodL K (p :: S) (upd H p o) ds vs :=
  GoodL.chg (S' := p :: S) (M := fun _ => False) ⟨fun a x h _ => same_upd hp a x h, fun _ h => h.elim, fun a m => by
    rcases List.mem_cons.mp m with q | q
    · exact .inr (by rw [q]; exact hp)
    · exact .inl q⟩ ds vs g
theorem PostV.newL {ds : List PyData} {vs : List V} (h : PostV K S H fr (.list ds) Q) (hd : Dom S H) (g : GoodL K S H ds vs) (p : Addr) (hp : H p = none) : Q (.ref p) (upd H p (.lst vs)) := by
  refine h _ _ (same_upd hp) ?_ (fun _ => ⟨p, rfl, hp, hd.new hp, ?_⟩)
  · simp only [Good]
    exact ⟨p, vs, rfl, .inl ⟨hd.new hp, .inl upd_same⟩, g.same (same_upd hp)⟩
  · exact ⟨vs, upd_same, goodL_new hp g⟩
theorem PostV.newT {ds : List PyData} {vs : List V} (h : PostV K S H false (.tuple ds) Q) (g : GoodL K S H ds vs) (p : Addr) (hp : H p = none) : Q (.ref p) (upd H p (.tup vs)) := by
  refine h _ _ (same_upd hp) ?_ (fun q => nomatch q)
  simp only [Good]
  exact ⟨p, vs, rfl, .inl (.inl upd_same), g.same (same_upd hp)⟩
theorem PostV.oldT {ds : List PyData} {vs : List V} {a : Addr} (h : PostV K S H false (.tuple ds) Q) (ht : SqT K H a vs) (g : GoodL K S H ds vs) : Q (.ref a) H := by
  refine h.at ?_
  simp only [Good]
  exact ⟨a, vs, rfl, ht, g⟩
end
/-- two operands, one operation -/
def rV2 (K : PySem.W.Frag) (o : Op) : R2 := fun x y H Q => ∃ S dx dy d, Dom S H ∧ GoodB K S H dx x ∧ GoodB K S H dy y ∧ prim o [dx, dy] = some d ∧ PostV K S H (frOp o) d Q
def rV1 (K : PySem.W.Frag) (o : Op) : V → Hp → VK → Prop := fun x H Q => ∃ S dx d, Dom S H ∧ GoodB K S H dx x ∧ prim o [dx] = some d ∧ PostV K S H (frOp o) d Q
section
variable {X : Cx}
theorem Inv.lstR {pins : List (Addr × Obj)} {σ : L2.St} {H : Hp} {s : Shared} {l : Addr} {xs : List V} (I : Inv X pins σ H s) (hH : Ls X.K H l xs) :
    xs.length ≤ sizeLine ∧ ∃ (its : List Value) (n : Nat), Vals xs its ∧ xs.length = its.length ∧ s.heap.get? l = some { cls := .type "list", data := .seq its.toArray n } := by
  rcases hH with hH | ⟨its, n, h, hl, r⟩
  · obtain ⟨z, its, n, r, e⟩ := hH.ok I.hok
    exact (⟨z, its, n, r, r.length, e⟩)
  · exact ⟨r.length ▸ hl, its, n, r, r.length, I.kIn _ _ h⟩
def rCatR (K : PySem.W.Frag) : R2 := fun x y H Q => ∃ l b xs zs, x = .ref l ∧ y = .ref b ∧ Ls K H l xs ∧ Ls K H b zs ∧ xs.length + zs.length ≤ sizeLine ∧ ∀ p, H p = none → Q (.ref p) (upd H p (.lst (xs ++ zs)))
theorem op_catR : OpR X (binaryOp .Add) (rCatR X.K) := fun pins sh σ H x y v u Q I rx ry ⟨l, b, xs, zs, ex, ey, atl, atb, room, k⟩ => by
  subst ex ey
  cases rx; cases ry
  obtain ⟨_, ls, n, rl, nl, hl⟩ := Inv.lstR I atl
  obtain ⟨_, bs, m, rb, nb, hb⟩ := Inv.lstR I atb
  have both : xs.length + zs.length = (xs ++ zs).length := List.length_append.symm
  refine PySem.P.add_list hl hb ?_ (by simp only [List.size_toArray]; omega)
  rw [show ls.toArray ++ bs.toArray = (ls ++ bs).toArray from List.append_toArray ls bs]
  exact ⟨.ref _, _, I.lnew (t' := sh.toks) (rl.append rb) (both ▸ room), rfl, k _ I.fresh⟩
theorem opv_add : OpR X (binaryOp .Add) (rV2 X.K .add) := by
  rintro pins s σ H x y v u Q I rx ry h
  obtain ⟨S, dx, dy, d, hd, gx, gy, hp, post⟩ := h
  have hp' : primA [dx, dy] = some d := hp
  unfold primA at hp'
  split at hp'
  · rename_i i j e
    cases e
    cases hp'
    exact op_add pins s σ H x y v u Q I rx ry ⟨i, j, gx.int, gy.int, PostV.int post⟩
  · rename_i i j e
    cases e
    split at hp'
    · cases hp'
      rename_i hl
      exact op_add_str pins s σ H x y v u Q I rx ry ⟨i, j, gx.str, gy.str, by rw [← big_eq]; exact hl, PostV.str post⟩
    · cases hp'
  · rename_i xs ys e
    cases e
    split at hp'
    · cases hp'
      rename_i hl
      obtain ⟨a, vs, e1, r1, g1⟩ := gx.list
      obtain ⟨b, us, e2, r2, g2⟩ := gy.list
      refine op_catR pins s σ H x y v u Q I rx ry ⟨a, b, vs, us, e1, e2, r1, r2, ?_, fun p hp => PostV.newL post hd (g1.append g2) p hp⟩
      rw [g1.length, g2.length, ← big_eq]
      exact hl
    · cases hp'
  · rename_i xs ys e
    cases e
    split at hp'
    · cases hp'
      rename_i hl
      obtain ⟨a, vs, e1, r1, g1⟩ := gx.tuple
      obtain ⟨b, us, e2, r2, g2⟩ := gy.tuple
      refine op_catA pins s σ H x y v u Q I rx ry ⟨a, b, vs, us, e1, e2, r1, r2, ?_, fun z => ?_, fun _ z => ?_, fun _ _ p hp => PostV.newT post (g1.append g2) p hp⟩
      · rw [g1.length, g2.length, ← big_eq]
        exact hl
      · subst z
        have z2 : xs = [] := List.eq_nil_of_length_eq_zero (by rw [← g1.length]; rfl)
        subst z2
        exact PostV.oldT post r2 g2
      · subst z
        have z2 : ys = [] := List.eq_nil_of_length_eq_zero (by rw [← g2.length]; rfl)
        subst z2
        rw [List.append_nil] at post
        exact PostV.oldT post r1 g1
    · cases hp'
  · cases hp'
theorem opv_sub : OpR X (binaryOp .Sub) (rV2 X.K .sub) := by
  rintro pins s σ H x y v u Q I rx ry h
  obtain ⟨S, dx, dy, d, hd, gx, gy, hp, post⟩ := h
  cases dx <;> cases dy <;> first | (cases hp; done) | skip
  rename_i i j
  cases hp
  exact op_sub pins s σ H x y v u Q I rx ry ⟨i, j, gx.int, gy.int, PostV.int post⟩
theorem opv_fdiv : OpR X (binaryOp .FloorDiv) (rV2 X.K .fdiv) := by
  rintro pins s σ H x y v u Q I rx ry h
  obtain ⟨S, dx, dy, d, hd, gx, gy, hp, post⟩ := h
  cases dx <;> cases dy <;> first | (cases hp; done) | skip
  rename_i i j
  simp only [prim] at hp
  split at hp
  · rename_i c
    cases hp
    simp only [Bool.and_eq_true, decide_eq_true_eq] at c
    exact op_fdiv pins s σ H x y v u Q I rx ry ⟨i, j, gx.int, gy.int, c, PostV.int post⟩
  · cases hp
theorem opv_mod : OpR X (binaryOp .Mod) (rV2 X.K .mod) := by
  rintro pins s σ H x y v u Q I rx ry h
  obtain ⟨S, dx, dy, d, hd, gx, gy, hp, post⟩ := h
  cases dx <;> cases dy <;> first | (cases hp; done) | skip
  rename_i i j
  simp only [prim] at hp
  split at hp
  · rename_i c
    cases hp
    exact op_mod pins s σ H x y v u Q I rx ry ⟨i, j, gx.int, gy.int, c, PostV.int post⟩
  · cases hp
theorem opv_pow : OpR X (binaryOp .Pow) (rV2 X.K .pow) := by
  rintro pins s σ H x y v u Q I rx ry h
  obtain ⟨S, dx, dy, d, hd, gx, gy, hp, post⟩ := h
  cases dx <;> cases dy <;> first | (cases hp; done) | skip
  rename_i i j
  simp only [prim] at hp
  split at hp
  · rename_i c
    cases hp
    simp only [Bool.and_eq_true, decide_eq_true_eq] at c
    exact op_pow pins s σ H x y v u Q I rx ry ⟨i, j, gx.int, gy.int, ⟨c.1.1, c.1.2, c.2⟩, PostV.int post⟩
  · cases hp
theorem unv_neg : UnR X (unaryOp .USub) (rV1 X.K .neg) := by
  intro pins s σ H x v Q I rx h
  obtain ⟨S, dx, d, hd, gx, hp, post⟩ := h
  cases dx <;> first | (cases hp; done) | skip
  rename_i i
  cases hp
  exact un_neg pins s σ H x v Q I rx ⟨i, gx.int, PostV.int post⟩
end
end MP
end
section
set_option Elab.async false
set_option linter.all false
set_option autoImplicit false
set_option maxRecDepth 100000
set_option maxHeartbeats 4000001
/-! PROVENANCE of MiniOps2: parts of this text began as rows of the library's HandS/List and were then rewritten; the plan is the library's -/
namespace MP
open PySem.Spec PyProof.Rows L2 PySem

/-! ### times -/
theorem rep_good {K : PySem.W.Frag} {S : List Addr} {H : Hp} {ds : List PyData} {vs : List V} (g : GoodL K S H ds vs) : ∀ n : Nat, GoodL K S H (List.replicate n ds).flatten (List.replicate n vs).flatten
  | 0 => by simp only [List.replicate_zero, List.flatten_nil, GoodL]
  | n + 1 => by
    rw [(List.replicate_succ), List.replicate_succ, List.flatten_cons, List.flatten_cons]
    exact g.append (rep_good g n)
theorem fold_cps (a : Array Nat) : ∀ (m : Nat) (b : Array Nat), (List.replicate m a).foldl (· ++ ·) b = b ++ ((List.replicate m a.toList).flatten).toArray
  | 0, b => by simp
  | m + 1, b => by
    rw [List.replicate_succ, List.foldl_cons, fold_cps a m, List.replicate_succ, List.flatten_cons]
    apply Array.ext'
    simp
section
variable {X : Cx}
def rRepR (K : PySem.W.Frag) : R2 := fun x y H Q => ∃ l k xs, x = .ref l ∧ y = .int k ∧ Ls K H l xs ∧ -(2 ^ 63) ≤ k ∧ k < 2 ^ 63 ∧ xs.length * k.toNat ≤ sizeLine ∧ ∀ p, H p = none → Q (.ref p) (upd H p (.lst (List.replicate k.toNat xs).flatten))
/-- the items laid again and again, as the model lays them -/
theorem laid_rep (its : List Value) (k : Nat) : List.foldl (fun a b => a ++ b) #[] (List.replicate (if its.toArray.isEmpty = true then 0 else k) its.toArray) = (List.replicate k its).flatten.toArray := by
  have key : ∀ m : Nat, List.foldl (fun a b => a ++ b) #[] (List.replicate m its.toArray) = (List.replicate m its).flatten.toArray := fun m => (foldl_rep its m []).trans (by rw [List.nil_append])
  cases its with
  | nil => rw [key]; simp
  | cons a r => exact (key _).trans (by rw [if_neg (by simp)])
theorem op_repR : OpR X (binaryOp .Mult) (rRepR X.K) := fun pins sh σ H x y v u Q I rx ry ⟨l, k, xs, ex, ey, at_, lo, hi, room, go⟩ => by
  subst ex ey
  cases rx
  obtain ⟨t, rfl⟩ := ry
  obtain ⟨_, its, n, r, nl, hl⟩ := Inv.lstR I at_
  have room2 : its.toArray.size * k.toNat ≤ sizeLine := by simpa [← nl] using room
  have line : (sizeLine : Nat) ≤ (2 ^ 63 - 1) / 8 := by decide
  have c1 : ¬ (!Builtin.List.listFitsIndex k) = true := by rw [fitsIndex_both lo hi]; decide
  have c2 : ¬ Builtin.List.listTooLong (its.toArray.size * k.toNat) = true := fun z => Bool.false_ne_true (notLongL room2 ▸ z)
  have c3 : ¬ its.toArray.size * k.toNat > (2 ^ 63 - 1) / 8 := by omega
  have isL : sh.TypeIs (.ref l) "list" := ⟨_, hl, rfl⟩
  refine wpAny_binaryOp_repeat_ref (T := "list") (U := "int") (by decide) isL (fun _ => typeIs_int _ k t) noFill_list_mul F.fills_int_mul F.slot_int_rmul repeat_list F.slot_int_index.lookup ?_
  refine call_meets F.slot_int_rmul (typeIs_int sh k t) F.entry_int_rmul (F.args_int_rmul_2 _ _) (int___rmul___int_list k t l its.toArray n) ⟨hl, rfl, isL, ?_⟩
  refine call_meets F.slot_list_mul isL F.entry_list_mul (F.args_list_mul_2 _ _) (AutoListH.list___mul___list_int_3 l its.toArray n k t c1 c3 c2) ⟨hl, ?_⟩
  have len : (List.replicate k.toNat xs).flatten.length ≤ sizeLine := by rw [PyProof.Rows.lm_len_rep_flat, Nat.mul_comm]; exact room
  rw [laid_rep its k.toNat]
  exact ⟨.ref _, _, I.lnew (t' := sh.toks) (r.rep k.toNat) len, rfl, go _ I.fresh⟩
theorem op_mul_str : OpR X (binaryOp .Mult) (fun x y H Q => ∃ z k, x = .str z ∧ y = .int k ∧ 0 ≤ k ∧ k ≤ 1000 ∧ z.length ≤ 1000 ∧ Q (.str (repS z k)) H) := by
  rintro pins s σ H x y v u Q I rx ry h
  obtain ⟨z, k, rfl, rfl, h0, h1, hz, q⟩ := h
  obtain ⟨t, rfl⟩ := rx
  obtain ⟨t', rfl⟩ := ry
  have hprod : z.length * k.toNat ≤ 1000 * 1000 := Nat.mul_le_mul hz (by omega)
  refine PySem.P.mul_str ?_ (fun a b => ?_) (fun a b => ?_) ?_
  · simp only [Bool.or_eq_false_iff, decide_eq_false_iff_not]
    omega
  · have hk : 1 ≤ k := by omega
    have : (1000 : Int) ≤ (2 ^ 63 - 1) / k := by
      rw [Int.le_ediv_iff_mul_le (by omega)]
      omega
    omega
  · unfold Builtin.Str.tooLong
    have : (sizeLine : Nat) = 16777216 := by decide
    exact (decide_eq_false (by omega))
  · have key : repS z k = if k < 1 then Str.empty else if (k == 1 || z.length == 0) = true then z else ⟨(List.replicate k.toNat z.cps).foldl (· ++ ·) #[]⟩ := by
      unfold repS
      split
      · have : k.toNat = 0 := by omega
        rw [this]
        rfl
      · split
        · rename_i c
          simp only [Bool.or_eq_true, beq_iff_eq] at c
          rcases c with c | c
          · subst c
            show (⟨([z.cps.toList]).flatten.toArray⟩ : Str) = z
            simp
          · have hc : z.cps.toList = [] := List.eq_nil_of_length_eq_zero (by have : z.cps.size = 0 := c; simpa using this)
            have : z = ⟨#[]⟩ := by
              cases z with
              | mk cps =>
                congr 1
                apply Array.ext'
                exact hc
            rw [hc, this]
            simp
        · rw [fold_cps]
          simp
    by_cases c1 : k < 1
    · rw [if_pos c1] at key ⊢
      exact ⟨by decide, .str _, H, I.tok _, ⟨_, rfl⟩, by rw [← key]; exact q⟩
    · rw [if_neg c1] at key ⊢
      by_cases c2 : (k == 1 || z.length == 0) = true
      · rw [if_pos c2] at key ⊢
        exact ⟨.str _, H, I, ⟨_, rfl⟩, by rw [← key]; exact q⟩
      · rw [if_neg c2] at key ⊢
        refine ⟨?_, .str _, H, I.tok _, ⟨_, rfl⟩, by rw [← key]; exact q⟩
        rw [← key]
        have e : (repS z k).length = k.toNat * z.length := by
          show ((List.replicate k.toNat z.cps.toList).flatten.toArray).size = _
          rw [List.size_toArray, List.length_flatten, List.map_replicate, List.sum_replicate_nat]
          rfl
        rw [e, Nat.mul_comm]
        have : (sizeLine : Nat) = 16777216 := by decide
        omega
theorem opv_mul : OpR X (binaryOp .Mult) (rV2 X.K .mul) := by
  rintro pins s σ H x y v u Q I rx ry h
  obtain ⟨S, dx, dy, d, hd, gx, gy, hp, post⟩ := h
  have hp' : primM [dx, dy] = some d := hp
  unfold primM at hp'
  split at hp'
  · rename_i i j e
    cases e
    split at hp'
    · rename_i c
      cases hp'
      simp only [mulOk, Bool.or_eq_true, Bool.and_eq_true, decide_eq_true_eq] at c
      exact op_mul pins s σ H x y v u Q I rx ry ⟨i, j, gx.int, gy.int, c, PostV.int post⟩
    · cases hp'
  · rename_i z j e
    cases e
    split at hp'
    · rename_i c
      cases hp'
      simp only [Bool.and_eq_true, decide_eq_true_eq] at c
      exact op_mul_str pins s σ H x y v u Q I rx ry ⟨z, j, gx.str, gy.int, c.1.1, c.1.2, c.2, PostV.str post⟩
    · cases hp'
  · rename_i xs j e
    cases e
    split at hp'
    · rename_i c
      cases hp'
      simp only [small, Bool.and_eq_true, decide_eq_true_eq] at c
      obtain ⟨a, vs, e1, r1, g1⟩ := gx.list
      refine op_repR pins s σ H x y v u Q I rx ry ⟨a, j, vs, e1, gy.int, r1, by omega, by omega, ?_, fun p hp => PostV.newL post hd (rep_good g1 _) p hp⟩
      rw [g1.length, ← big_eq]
      exact c.1
    · cases hp'
  · rename_i xs j e
    cases e
    split at hp'
    · rename_i c
      cases hp'
      simp only [Bool.and_eq_true, decide_eq_true_eq, Bool.not_eq_true', List.isEmpty_eq_false_iff] at c
      obtain ⟨a, vs, e1, r1, g1⟩ := gx.tuple
      refine op_repT pins s σ H x y v u Q I rx ry ⟨a, j, vs, e1, gy.int, r1, fun z => c.1.1.1 ?_, c.1.1.2, c.1.2, ?_, fun p hp => PostV.newT post (rep_good g1 _) p hp⟩
      · exact List.eq_nil_of_length_eq_zero (by rw [← g1.length, z]; rfl)
      · rw [g1.length]
        exact c.2
    · cases hp'
  · cases hp'
end
/-! ### comparisons -/
mutual
theorem Good.dp {K : PySem.W.Frag} {S : List Addr} {H : Hp} : ∀ (d : PyData) (v : V), Good K S H d v → d.canLay0 = true → Dp K H v d
  | .none, v, h, _ => by
    simp only [Good] at h
    rw [h]
    exact .non
  | .bool b, v, h, _ => by
    simp only [Good] at h
    rw [h]
    exact .bl b
  | .int i, v, h, _ => by
    simp only [Good] at h
    rw [h]
    exact .int i
  | .str x, v, h, _ => by
    simp only [Good] at h
    rw [h]
    exact .str x
  | .list ds, v, h, c => by
    simp only [Good] at h
    obtain ⟨a, vs, e, hr, g⟩ := h
    rw [e]
    simp only [PyData.canLay0] at c
    exact .lst hr.ls.sq (GoodL.dp ds vs g c)
  | .tuple ds, v, h, c => by
    simp only [Good] at h
    obtain ⟨a, vs, e, hr, g⟩ := h
    rw [e]
    simp only [PyData.canLay0] at c
    exact .tup hr (GoodL.dp ds vs g c)
  | .dict ds, v, h, c => by
    simp only [PyData.canLay0] at c
    cases c
theorem GoodL.dp {K : PySem.W.Frag} {S : List Addr} {H : Hp} : ∀ (ds : List PyData) (vs : List V), GoodL K S H ds vs → PyData.canLayAll0 ds = true → DpAll K H vs ds
  | [], vs, h, _ => by
    simp only [GoodL] at h
    rw [h]
    exact .nil
  | d :: ds, vs, h, c => by
    simp only [GoodL] at h
    obtain ⟨v, r, e, h1, h2⟩ := h
    rw [e]
    simp only [PyData.canLayAll0, Bool.and_eq_true] at c
    exact .cons (Good.dp d v h1 c.1) (GoodL.dp ds r h2 c.2)
end
theorem GoodB.dp {K : PySem.W.Frag} {S : List Addr} {H : Hp} {d : PyData} {v : V} (h : GoodB K S H d v) (c : d.canLay0 = true) : Dp K H v d := by
  rcases h with h | ⟨a, e, h⟩
  · exact Good.dp d v h c
  · cases d with
    | list ds =>
      obtain ⟨vs, hr, g⟩ := h
      rw [e]
      simp only [PyData.canLay0] at c
      exact .lst (.inl (.inl hr)) (GoodL.dp ds vs g c)
    | dict ds =>
      simp only [PyData.canLay0] at c
      cases c
    | _ => exact h.elim
theorem shaped_lay {d : PyData} (h : shaped d = true) : d.canLay0 = true := by
  unfold shaped at h
  exact (Bool.and_eq_true_iff.mp h).1
section
variable {X : Cx}
theorem opv_eq (hu : X.A.units + 64 < cLine) : OpR X (compareOp .Eq) (rV2 X.K .eq) := by
  rintro pins s σ H x y v u Q I rx ry h
  obtain ⟨S, dx, dy, d, hd, gx, gy, hp, post⟩ := h
  have hp' : (if shaped dx && shaped dy then some (.bool (PyData.eqv dx dy)) else none) = some d := hp
  split at hp'
  · rename_i c
    cases hp'
    have c' := Bool.and_eq_true_iff.mp c
    exact op_eqD hu pins s σ H x y v u Q I rx ry ⟨dx, dy, gx.dp (shaped_lay c'.1), gy.dp (shaped_lay c'.2), c'.1, c'.2, PostV.bool post⟩
  · cases hp'
theorem opv_ne (hu : X.A.units + 64 < cLine) : OpR X (compareOp .NotEq) (rV2 X.K .ne) := by
  rintro pins s σ H x y v u Q I rx ry h
  obtain ⟨S, dx, dy, d, hd, gx, gy, hp, post⟩ := h
  have hp' : (if shaped dx && shaped dy then some (.bool (!PyData.eqv dx dy)) else none) = some d := hp
  split at hp'
  · rename_i c
    cases hp'
    have c' := Bool.and_eq_true_iff.mp c
    exact op_neD hu pins s σ H x y v u Q I rx ry ⟨dx, dy, gx.dp (shaped_lay c'.1), gy.dp (shaped_lay c'.2), c'.1, c'.2, PostV.bool post⟩
  · cases hp'
theorem opv_lt : OpR X (compareOp .Lt) (rV2 X.K .lt) := by
  rintro pins s σ H x y v u Q I rx ry h
  obtain ⟨S, dx, dy, d, hd, gx, gy, hp, post⟩ := h
  have hp' : primCmp (fun i j => decide (i < j)) (fun x y => ltStr x y) [dx, dy] = some d := hp
  unfold primCmp at hp'
  split at hp'
  · rename_i i j e
    cases e
    cases hp'
    exact op_lt pins s σ H x y v u Q I rx ry ⟨i, j, gx.int, gy.int, PostV.bool post⟩
  · rename_i i j e
    cases e
    cases hp'
    exact op_lt_str pins s σ H x y v u Q I rx ry ⟨i, j, gx.str, gy.str, PostV.bool post⟩
  · cases hp'
theorem opv_le : OpR X (compareOp .LtE) (rV2 X.K .le) := by
  rintro pins s σ H x y v u Q I rx ry h
  obtain ⟨S, dx, dy, d, hd, gx, gy, hp, post⟩ := h
  have hp' : primCmp (fun i j => decide (i ≤ j)) (fun x y => !ltStr y x) [dx, dy] = some d := hp
  unfold primCmp at hp'
  split at hp'
  · rename_i i j e
    cases e
    cases hp'
    exact op_le pins s σ H x y v u Q I rx ry ⟨i, j, gx.int, gy.int, PostV.bool post⟩
  · rename_i i j e
    cases e
    cases hp'
    exact op_le_str pins s σ H x y v u Q I rx ry ⟨i, j, gx.str, gy.str, PostV.bool post⟩
  · cases hp'
theorem opv_gt : OpR X (compareOp .Gt) (rV2 X.K .gt) := by
  rintro pins s σ H x y v u Q I rx ry h
  obtain ⟨S, dx, dy, d, hd, gx, gy, hp, post⟩ := h
  have hp' : primCmp (fun i j => decide (j < i)) (fun x y => ltStr y x) [dx, dy] = some d := hp
  unfold primCmp at hp'
  split at hp'
  · rename_i i j e
    cases e
    cases hp'
    exact op_gt pins s σ H x y v u Q I rx ry ⟨i, j, gx.int, gy.int, PostV.bool post⟩
  · rename_i i j e
    cases e
    cases hp'
    exact op_gt_str pins s σ H x y v u Q I rx ry ⟨i, j, gx.str, gy.str, PostV.bool post⟩
  · cases hp'
theorem opv_ge : OpR X (compareOp .GtE) (rV2 X.K .ge) := by
  rintro pins s σ H x y v u Q I rx ry h
  obtain ⟨S, dx, dy, d, hd, gx, gy, hp, post⟩ := h
  have hp' : primCmp (fun i j => decide (j ≤ i)) (fun x y => !ltStr x y) [dx, dy] = some d := hp
  unfold primCmp at hp'
  split at hp'
  · rename_i i j e
    cases e
    cases hp'
    exact op_ge pins s σ H x y v u Q I rx ry ⟨i, j, gx.int, gy.int, PostV.bool post⟩
  · rename_i i j e
    cases e
    cases hp'
    exact op_ge_str pins s σ H x y v u Q I rx ry ⟨i, j, gx.str, gy.str, PostV.bool post⟩
  · cases hp'
end
end MP
end
section
set_option Elab.async false
set_option linter.all false
set_option autoImplicit false
set_option maxRecDepth 100000
set_option maxHeartbeats 4000001
namespace MP
open PySem.Spec PyProof.Rows L2 PySem

section
variable {K : PySem.W.Frag} {S : List Addr} {H : Hp}
theorem flat_v {d : PyData} {v : V} (f : flat d = true) (g : GoodB K S H d v) : flatV v = true := by
  cases d with
  | none => rw [g.none]; rfl
  | bool b => rw [g.bool]; rfl
  | int i => rw [g.int]; rfl
  | str x => rw [g.str]; rfl
  | list _ => cases f
  | tuple _ => cases f
  | dict _ => cases f
theorem flat_eqv {d e : PyData} {v u : V} (fd : flat d = true) (fe : flat e = true) (g : GoodB K S H d v) (h : GoodB K S H e u) : eqV v u = PyData.eqv d e := by
  cases d with
  | list _ => cases fd
  | tuple _ => cases fd
  | dict _ => cases fd
  | none =>
    rw [g.none]
    cases e with
    | none => rw [h.none]; rfl
    | bool b => rw [h.bool]; rfl
    | int i => rw [h.int]; rfl
    | str x => rw [h.str]; rfl
    | list _ => cases fe
    | tuple _ => cases fe
    | dict _ => cases fe
  | bool b =>
    rw [g.bool]
    cases e with
    | none => rw [h.none]; rfl
    | bool b => rw [h.bool]; rfl
    | int i => rw [h.int]; rfl
    | str x => rw [h.str]; rfl
    | list _ => cases fe
    | tuple _ => cases fe
    | dict _ => cases fe
  | int b =>
    rw [g.int]
    cases e with
    | none => rw [h.none]; rfl
    | bool b => rw [h.bool]; rfl
    | int i => rw [h.int]; rfl
    | str x => rw [h.str]; rfl
    | list _ => cases fe
    | tuple _ => cases fe
    | dict _ => cases fe
  | str b =>
    rw [g.str]
    cases e with
    | none => rw [h.none]; rfl
    | bool b => rw [h.bool]; rfl
    | int i => rw [h.int]; rfl
    | str x => rw [h.str]; rfl
    | list _ => cases fe
    | tuple _ => cases fe
    | dict _ => cases fe
theorem flats_v : ∀ {ds : List PyData} {vs : List V}, ds.all flat = true → GoodL K S H ds vs → vs.all flatV = true
  | [], vs, _, g => by
    simp only [GoodL] at g
    rw [g]
    rfl
  | d :: ds, vs, f, g => by
    simp only [GoodL] at g
    obtain ⟨v, r, e, h1, h2⟩ := g
    rw [(List.all_cons), Bool.and_eq_true] at f
    rw [e, List.all_cons, flat_v f.1 h1.b, flats_v f.2 h2]
    rfl
theorem flats_in {x : PyData} {v : V} (fx : flat x = true) (gx : GoodB K S H x v) : ∀ {ds : List PyData} {vs : List V}, ds.all flat = true → GoodL K S H ds vs → inV v vs = ds.any fun y => PyData.eqv y x
  | [], vs, _, g => by
    simp only [GoodL] at g
    rw [g]
    rfl
  | d :: ds, vs, f, g => by
    simp only [GoodL] at g
    obtain ⟨u, r, e, h1, h2⟩ := g
    rw [(List.all_cons), Bool.and_eq_true] at f
    have ih := flats_in fx gx f.2 h2
    unfold inV at ih ⊢
    rw [e, List.any_cons, List.any_cons, ih, flat_eqv f.1 fx h1.b gx]
/-! ### dicts -/
def toKey : PyData → Option Key
  | .int i => some (.inl i)
  | .str x => some (.inr x)
  | _ => none
theorem isKey_key {k : PyData} {v : V} (h : isKey k = true) (g : GoodB K S H k v) : ∃ q : Key, v = kV q ∧ k = keyD q := by
  cases k with
  | int i => exact ⟨.inl i, g.int, rfl⟩
  | str x => exact ⟨.inr x, g.str, rfl⟩
  | none => cases h
  | bool _ => cases h
  | list _ => cases h
  | tuple _ => cases h
  | dict _ => cases h
theorem keyEq_keyD (a b : Key) : keyEq (keyD a) (keyD b) = decide (a = b) := by
  cases a with
  | inl i => cases b with
    | inl j =>
      show (i == j) = _
      by_cases e : i = j
      · subst e; simp
      · rw [decide_eq_false (fun q => e (Sum.inl.inj q))]
        exact beq_eq_false_iff_ne.mpr e
    | inr j => rw [decide_eq_false (fun q => nomatch q)]; rfl
  | inr i => cases b with
    | inl j => rw [decide_eq_false (fun q => nomatch q)]; rfl
    | inr j =>
      show (i == j) = _
      by_cases e : i = j
      · subst e; simp
      · rw [decide_eq_false (fun q => e (Sum.inr.inj q))]
        exact beq_eq_false_iff_ne.mpr e
theorem dget_val (q : Key) : ∀ {ds : List (PyData × PyData)} {ks : List (Key × V)}, GoodK K S H ds ks → (∀ d, dget (keyD q) ds = some d → ∃ v, L2.valV ks q = some v ∧ Good K S H d v) ∧ (dget (keyD q) ds = none → L2.valV ks q = none)
  | [], ks, g => by
    simp only [GoodK] at g
    subst g
    exact ⟨fun d h => (by cases h), fun _ => rfl⟩
  | (k, d) :: ds, ks, g => by
    simp only [GoodK] at g
    obtain ⟨q', v, r, e, ek, h1, h2⟩ := g
    subst ek
    subst e
    have ih := dget_val q h2
    have hd : dget (keyD q) ((keyD q', d) :: ds) = if keyEq (keyD q') (keyD q) = true then some d else dget (keyD q) ds := rfl
    rw [hd, keyEq_keyD]
    by_cases c : q' = q
    · rw [if_pos (decide_eq_true c), L2.valV_pos (p := (q', v)) c]
      exact ⟨fun d' h => ⟨v, rfl, by cases h; exact h1⟩, fun h => nomatch h⟩
    · rw [if_neg (by rw [decide_eq_false c]; exact Bool.false_ne_true), L2.valV_neg (p := (q', v)) c]
      exact ih
theorem GoodK.length : ∀ {ds : List (PyData × PyData)} {ks : List (Key × V)}, GoodK K S H ds ks → ks.length = ds.length
  | [], ks, g => by
    simp only [GoodK] at g
    subst g
    rfl
  | (k, d) :: ds, ks, g => by
    simp only [GoodK] at g
    obtain ⟨q', v, r, e, ek, h1, h2⟩ := g
    subst e
    rw [List.length_cons, List.length_cons, GoodK.length h2]
theorem GoodK.append : ∀ {ds es : List (PyData × PyData)} {ks ls : List (Key × V)}, GoodK K S H ds ks → GoodK K S H es ls → GoodK K S H (ds ++ es) (ks ++ ls)
  | [], es, ks, ls, g, h => by
    simp only [GoodK] at g
    subst g
    exact h
  | (k, d) :: ds, es, ks, ls, g, h => by
    simp only [GoodK] at g
    obtain ⟨q', v, r, e, ek, h1, h2⟩ := g
    subst e
    rw [List.cons_append, List.cons_append]
    simp only [GoodK]
    exact ⟨q', v, _, rfl, ek, h1, GoodK.append h2 h⟩
theorem any_key (q : Key) : ∀ {ds : List (PyData × PyData)} {ks : List (Key × V)}, GoodK K S H ds ks → (ds.any fun p => keyEq p.1 (keyD q)) = ks.any fun kv => decide (kv.1 = q)
  | [], ks, g => by
    simp only [GoodK] at g
    subst g
    rfl
  | (k, d) :: ds, ks, g => by
    simp only [GoodK] at g
    obtain ⟨q', v, r, e, ek, h1, h2⟩ := g
    subst e
    subst ek
    rw [List.any_cons, List.any_cons, any_key q h2, keyEq_keyD]
theorem GoodK.map (q : Key) {d : PyData} {v : V} (h : Good K S H d v) : ∀ {ds : List (PyData × PyData)} {ks : List (Key × V)}, GoodK K S H ds ks →
    GoodK K S H (ds.map fun p => if keyEq p.1 (keyD q) = true then (p.1, d) else p) (ks.map fun kv => if kv.1 = q then (kv.1, v) else kv)
  | [], ks, g => by
    simp only [GoodK] at g
    subst g
    simp only [List.map_nil, GoodK]
  | (k, d') :: ds, ks, g => by
    simp only [GoodK] at g
    obtain ⟨q', v', r, e, ek, h1, h2⟩ := g
    subst e
    subst ek
    rw [(List.map_cons), List.map_cons]
    have ih := GoodK.map q h h2
    simp only [keyEq_keyD, decide_eq_true_eq] at ih ⊢
    by_cases c : q' = q
    · rw [if_pos c, if_pos c]
      simp only [GoodK]
      exact ⟨q', v, _, rfl, rfl, h, ih⟩
    · rw [if_neg c, if_neg c]
      simp only [GoodK]
      exact ⟨q', v', _, rfl, rfl, h1, ih⟩
theorem GoodK.put (q : Key) {d : PyData} {v : V} (h : Good K S H d v) {ds : List (PyData × PyData)} {ks : List (Key × V)} (g : GoodK K S H ds ks) : GoodK K S H (dput (keyD q) d ds) (L2.putK ks q v) := by
  unfold dput L2.putK
  rw [any_key q g]
  split
  · exact g.map q h
  · refine g.append ?_
    simp only [GoodK]
    exact ⟨q, v, [], rfl, rfl, h, rfl⟩
end
section
variable {X : Cx}
theorem neq_b (n b : Bool) : (n != b) = if n = true then !b else b := by cases n <;> cases b <;> rfl
theorem opv_in (n : Bool) (hu : X.A.units + 1 < cLine) : OpR X (compareOp (if n = true then .NotIn else .In)) (rV2 X.K (.isin n)) := by
  rintro pins s σ H x y v u Q I rx ry h
  obtain ⟨S, dx, dy, d, hd, gx, gy, hp, post⟩ := h
  have hp' : primIn n [dx, dy] = some d := hp
  unfold primIn at hp'
  split at hp'
  · rename_i z ys e
    cases e
    split at hp'
    · rename_i c
      cases hp'
      have c' := Bool.and_eq_true_iff.mp c
      obtain ⟨a, vs, e1, r1, g1⟩ := gy.list
      have q := PostV.bool post
      rw [neq_b, ← flats_in c'.1 gx c'.2 g1] at q
      cases n with
      | false => exact op_in_seq pins s σ H x y v u Q I rx ry ⟨a, vs, e1, .inl r1.sq, flat_v c'.1 gx, flats_v c'.2 g1, q⟩
      | true => exact op_notIn_seq pins s σ H x y v u Q I rx ry ⟨a, vs, e1, .inl r1.sq, flat_v c'.1 gx, flats_v c'.2 g1, q⟩
    · cases hp'
  · rename_i z ys e
    cases e
    split at hp'
    · rename_i c
      cases hp'
      have c' := Bool.and_eq_true_iff.mp c
      obtain ⟨a, vs, e1, r1, g1⟩ := gy.tuple
      have q := PostV.bool post
      rw [neq_b, ← flats_in c'.1 gx c'.2 g1] at q
      cases n with
      | false => exact op_in_seq pins s σ H x y v u Q I rx ry ⟨a, vs, e1, .inr r1, flat_v c'.1 gx, flats_v c'.2 g1, q⟩
      | true => exact op_notIn_seq pins s σ H x y v u Q I rx ry ⟨a, vs, e1, .inr r1, flat_v c'.1 gx, flats_v c'.2 g1, q⟩
    · cases hp'
  · rename_i k kvs e
    cases e
    split at hp'
    · rename_i c
      cases hp'
      have c' := Bool.and_eq_true_iff.mp c
      obtain ⟨q, ev, ek⟩ := isKey_key c'.1 gx
      obtain ⟨a, ea, hh⟩ := gy.dict
      subst ev ea
      have pq := PostV.bool post
      rcases hh with ⟨ks, hk, gk⟩ | ⟨r, ks, er, hk, gk⟩
      · have es : (dget dx kvs).isSome = (L2.valV ks q).isSome := by
          subst ek
          obtain ⟨h1, h2⟩ := dget_val q gk
          cases z : dget (keyD q) kvs with
          | none => rw [h2 z]; rfl
          | some dd =>
            obtain ⟨vv, hv, _⟩ := h1 dd z
            rw [hv]; rfl
        rw [neq_b, es] at pq
        cases ry
        cases n with
        | false => exact d_in hu I (.inl ⟨ks, q, hk, rfl, rfl⟩) rx fun s' I' => ⟨.bl _, H, I', rfl, pq⟩
        | true => exact d_notIn hu I (.inl ⟨ks, q, hk, rfl, rfl⟩) rx fun s' I' => ⟨.bl _, H, I', rfl, pq⟩
      · rw [er, List.all_cons, Bool.and_eq_true] at c'
        cases c'.2.1
    · cases hp'
  · rename_i z w e
    cases e
    split at hp'
    · rename_i c ec
      cases hp'
      have ez : z = ⟨#[c]⟩ := by
        cases z with
        | mk cps =>
          congr 1
          apply Array.ext'
          exact ec
      have q := PostV.bool post
      rw [neq_b] at q
      cases n with
      | false => exact op_in_sign pins s σ H x y v u Q I rx ry ⟨c, w, by rw [gx.str, ez], gy.str, q⟩
      | true => exact op_notIn_sign pins s σ H x y v u Q I rx ry ⟨c, w, by rw [gx.str, ez], gy.str, q⟩
    · cases hp'
  · cases hp'
end
end MP
end
section
set_option Elab.async false
set_option linter.all false
set_option autoImplicit false
set_option maxRecDepth 100000
set_option maxHeartbeats 4000001
namespace MP
open PySem.Spec PyProof.Rows L2 PySem

section
variable {X : Cx}
def rC1 (K : PySem.W.Frag) (o : Op) : List V → Hp → VK → Prop := fun xs H Q => ∃ x, xs = [x] ∧ rV1 K o x H Q
def rC2 (K : PySem.W.Frag) (o : Op) : List V → Hp → VK → Prop := fun xs H Q => ∃ x y, xs = [x, y] ∧ rV2 K o x y H Q
/-! ### is -/
theorem opv_isN (n : Bool) : OpR X (compareOp (if n = true then .IsNot else .Is)) (fun x y H Q => y = .non ∧ rV1 X.K (.isC n .none) x H Q) := by
  rintro pins s σ H x y v u Q I rx ry h
  obtain ⟨ey, S, dx, d, hd, gx, hp, post⟩ := h
  have key : ∃ b, d = .bool (n != b) ∧ decide (x = .non) = b := by
    cases dx with
    | none => cases hp; exact ⟨true, rfl, by rw [gx.none]; rfl⟩
    | bool _ => cases hp; exact ⟨false, rfl, by rw [gx.bool]; rfl⟩
    | int _ => cases hp; exact ⟨false, rfl, by rw [gx.int]; rfl⟩
    | str _ => cases hp; exact ⟨false, rfl, by rw [gx.str]; rfl⟩
    | list _ => cases hp; obtain ⟨a, vs, e, _⟩ := gx.list; exact ⟨false, rfl, by rw [e]; rfl⟩
    | tuple _ => cases hp; obtain ⟨a, vs, e, _⟩ := gx.tuple; exact ⟨false, rfl, by rw [e]; rfl⟩
    | dict _ => cases hp; obtain ⟨a, e, _⟩ := gx.dict; exact ⟨false, rfl, by rw [e]; rfl⟩
  obtain ⟨b, rfl, eb⟩ := key
  have q := PostV.bool post
  rw [neq_b] at q
  cases n with
  | false => exact op_isN pins s σ H x y v u Q I rx ry ⟨ey, by rw [eb]; exact q⟩
  | true => exact op_notN pins s σ H x y v u Q I rx ry ⟨ey, by rw [eb]; exact q⟩
theorem opv_isB (n c : Bool) : OpR X (compareOp (if n = true then .IsNot else .Is)) (fun x y H Q => y = .bl c ∧ rV1 X.K (.isC n (.bool c)) x H Q) := by
  rintro pins s σ H x y v u Q I rx ry h
  obtain ⟨ey, S, dx, d, hd, gx, hp, post⟩ := h
  cases dx <;> first | (cases hp; done) | skip
  rename_i a
  have e : d = .bool (n != decide (a = c)) := by cases hp; rfl
  subst e
  have q := PostV.bool post
  rw [neq_b] at q
  cases n with
  | false => exact op_isBl pins s σ H x y v u Q I rx ry ⟨a, c, gx.bool, ey, q⟩
  | true => exact op_notBl pins s σ H x y v u Q I rx ry ⟨a, c, gx.bool, ey, q⟩
/-! ### subscripts -/
theorem nth_get {K : PySem.W.Frag} {S : List Addr} {H : Hp} {ds : List PyData} {vs : List V} {i : Int} {d : PyData} (g : GoodL K S H ds vs) (h : nth ds i = some d) : ∃ v, atI vs i = some v ∧ Good K S H d v := by
  unfold nth at h
  rw [Option.bind_eq_some_iff] at h
  obtain ⟨j, hj, hd⟩ := h
  obtain ⟨v, hv, gv⟩ := g.get hd
  refine ⟨v, ?_, gv⟩
  unfold atI
  rw [g.length]
  show (ixN ds.length i).bind _ = _
  rw [hj]
  exact hv
theorem ix_dictV (hu : X.A.units + 1 < cLine) : IxR X (fun x y H Q => ∃ a v, x = .ref a ∧ DGet H a y (some v) ∧ Q v H) := by
  rintro value slice pins s σ H x y v u Q I rx ry h hs
  obtain ⟨a, w, rfl, g, q⟩ := h
  cases rx
  exact tail_any (dict_typeIs I g) PySem.F.slot_dict_getitem.lookup (d_getItem hu I g ry fun w' s3 I3 rw' => ⟨w, H, I3, rw', q⟩) hs
theorem ixv (hu : X.A.units + 1 < cLine) : IxR X (rV2 X.K .idx) := by
  rintro value slice pins s σ H x y v u Q I rx ry h hs
  obtain ⟨S, dx, dy, d, hd, gx, gy, hp, post⟩ := h
  have hp' : primIdx [dx, dy] = some d := hp
  unfold primIdx at hp'
  split at hp'
  · rename_i xs i e
    cases e
    obtain ⟨a, vs, e1, r1, g1⟩ := gx.list
    obtain ⟨w, hw, gw⟩ := nth_get g1 hp'
    exact ix_list value slice pins s σ H x y v u Q I rx ry ⟨a, vs, i, w, e1, gy.int, r1.sq, hw, PostV.at post gw⟩ hs
  · rename_i xs i e
    cases e
    obtain ⟨a, vs, e1, r1, g1⟩ := gx.tuple
    obtain ⟨w, hw, gw⟩ := nth_get g1 hp'
    exact ix_tup value slice pins s σ H x y v u Q I rx ry ⟨a, vs, i, w, e1, gy.int, r1, hw, PostV.at post gw⟩ hs
  · rename_i kvs k e
    cases e
    split at hp'
    · rename_i c
      have c' := Bool.and_eq_true_iff.mp c
      obtain ⟨q, ev, ek⟩ := isKey_key c'.1 gy
      obtain ⟨a, ea, hh⟩ := gx.dict
      rcases hh with ⟨ks, hk, gk⟩ | ⟨r, ks, er, hk, gk⟩
      · subst ek
        obtain ⟨w, hw, gw⟩ := (dget_val q gk).1 d hp'
        refine ix_dictV hu value slice pins s σ H x y v u Q I rx ry ⟨a, w, ea, ?_, PostV.at post gw⟩ hs
        rw [ev, ← hw]
        exact .inl ⟨ks, q, hk, rfl, rfl⟩
      · rw [er, List.all_cons, Bool.and_eq_true] at c'
        cases c'.2.1
    · cases hp'
  · cases hp'
/-! ### slices -/
theorem cut_good {K : PySem.W.Frag} {S : List Addr} {H : Hp} {ds : List PyData} {vs : List V} (g : GoodL K S H ds vs) (lo hi : Option Int) : GoodL K S H (cut ds lo hi) (cutV vs lo hi) := by
  unfold cut cutV
  have e : ∀ n d o, HT.sIx n d o = sIx n d o := fun n d o => by cases o <;> rfl
  rw [e, e, g.length]
  exact (g.drop _).take _
def rVS (K : PySem.W.Frag) : V → Option Int → Option Int → Hp → VK → Prop := fun x lo hi H Q => ∃ S dx d, Dom S H ∧ GoodB K S H dx x ∧ cutD lo hi dx = some d ∧ PostV K S H false d Q
theorem slv : SlR X (rVS X.K) := by
  rintro pins s σ H x v vl vu lo hi sl Q I rx hs pl pu h
  obtain ⟨S, dx, d, hd, gx, hp, post⟩ := h
  cases dx with
  | list xs =>
    cases hp
    obtain ⟨a, vs, e1, r1, g1⟩ := gx.list
    exact sl_list pins s σ H x v vl vu lo hi sl Q I rx hs pl pu ⟨a, vs, e1, r1.sq, fun p hp => PostV.newL post hd (cut_good g1 lo hi) p hp⟩
  | tuple xs =>
    cases hp
    obtain ⟨a, vs, e1, r1, g1⟩ := gx.tuple
    refine sl_tupA pins s σ H x v vl vu lo hi sl Q I rx hs pl pu ⟨a, vs, e1, r1, fun c => ?_, fun _ p hp => PostV.newT post (cut_good g1 lo hi) p hp⟩
    have e : cut xs lo hi = xs := by
      have e : ∀ n d o, HT.sIx n d o = sIx n d o := fun n d o => by cases o <;> rfl
      rw [e, e, g1.length] at c
      unfold cut
      rw [c.1, c.2, List.drop_zero]
      exact List.take_of_length_le (by omega)
    rw [e] at post
    exact PostV.oldT post r1 g1
  | str z =>
    simp only [cutD] at hp
    split at hp
    · cases hp
      rename_i hz
      have q := PostV.str post
      refine sl_str pins s σ H x v vl vu lo hi sl Q I rx hs pl pu ⟨z, gx.str, by rw [← big_eq]; exact hz, ?_⟩
      have e : cutS z lo hi = ⟨(cut z.cps.toList lo hi).toArray⟩ := by
        have e : ∀ n d o, HT.sIx n d o = sIx n d o := fun n d o => by cases o <;> rfl
        unfold cutS cut
        simp only [e]
        rfl
      rw [e]
      exact q
    · cases hp
  | none => cases hp
  | bool _ => cases hp
  | int _ => cases hp
  | dict _ => cases hp
end
end MP
end
section
set_option Elab.async false
set_option linter.all false
set_option autoImplicit false
set_option maxRecDepth 100000
set_option maxHeartbeats 4000001
namespace MP
open PySem.Spec PyProof.Rows L2 PySem

section
variable {K : PySem.W.Frag} {S : List Addr} {H : Hp}
theorem ints_v : ∀ {ds : List PyData} {is : List Int} {vs : List V}, asInts ds = some is → GoodL K S H ds vs → vs = is.map V.int
  | [], is, vs, h, g => by
    simp only [GoodL] at g
    cases h
    exact g
  | d :: ds, is, vs, h, g => by
    simp only [GoodL] at g
    obtain ⟨v, r, e, h1, h2⟩ := g
    cases d with
    | int i =>
      simp only [asInts, Option.map_eq_some_iff] at h
      obtain ⟨js, hj, rfl⟩ := h
      simp only [Good] at h1
      rw [e, h1, ints_v hj h2]
      rfl
    | _ => cases h
theorem bools_v : ∀ {ds : List PyData} {is : List Bool} {vs : List V}, asBools ds = some is → GoodL K S H ds vs → vs = is.map V.bl
  | [], is, vs, h, g => by
    simp only [GoodL] at g
    cases h
    exact g
  | d :: ds, is, vs, h, g => by
    simp only [GoodL] at g
    obtain ⟨v, r, e, h1, h2⟩ := g
    cases d with
    | bool i =>
      simp only [asBools, Option.map_eq_some_iff] at h
      obtain ⟨js, hj, rfl⟩ := h
      simp only [Good] at h1
      rw [e, h1, bools_v hj h2]
      rfl
    | _ => cases h
theorem strs_v : ∀ {ds : List PyData} {is : List Str} {vs : List V}, asStrs ds = some is → GoodL K S H ds vs → vs = is.map V.str
  | [], is, vs, h, g => by
    simp only [GoodL] at g
    cases h
    exact g
  | d :: ds, is, vs, h, g => by
    simp only [GoodL] at g
    obtain ⟨v, r, e, h1, h2⟩ := g
    cases d with
    | str i =>
      simp only [asStrs, Option.map_eq_some_iff] at h
      obtain ⟨js, hj, rfl⟩ := h
      simp only [Good] at h1
      rw [e, h1, strs_v hj h2]
      rfl
    | _ => cases h
theorem maxI_is : ∀ (is : List Int) (m : Int), maxI m is ∈ m :: is ∧ ∀ y, y ∈ m :: is → y ≤ maxI m is
  | [], m => ⟨List.mem_cons_self, fun y hy => by
      rcases List.mem_cons.1 hy with h | h
      · rw [h]; exact Int.le_refl _
      · cases h⟩
  | x :: r, m => by
    obtain ⟨h1, h2⟩ := maxI_is r (if m < x then x else m)
    show maxI (if m < x then x else m) r ∈ _ ∧ ∀ y, y ∈ _ → y ≤ maxI (if m < x then x else m) r
    constructor
    · rcases List.mem_cons.mp h1 with h | h
      · rw [h]
        split
        · exact List.mem_cons_of_mem _ List.mem_cons_self
        · exact List.mem_cons_self
      · exact List.mem_cons_of_mem _ (List.mem_cons_of_mem _ h)
    · intro y hy
      have hm := h2 _ List.mem_cons_self
      have hz : ∃ z, z = (if m < x then x else m) ∧ (m ≤ z ∧ x ≤ z) := ⟨_, rfl, by split <;> omega⟩
      obtain ⟨z, ez, hz1, hz2⟩ := hz
      rw [← ez] at hm h2 ⊢
      rcases List.mem_cons.1 hy with h | h
      · omega
      · rcases List.mem_cons.mp h with h | h
        · omega
        · exact h2 y (List.mem_cons_of_mem _ h)
theorem minI_is : ∀ (is : List Int) (m : Int), minI m is ∈ m :: is ∧ ∀ y, y ∈ m :: is → minI m is ≤ y
  | [], m => ⟨List.mem_cons_self, fun y hy => by
      rcases List.mem_cons.1 hy with h | h
      · rw [h]; exact Int.le_refl _
      · cases h⟩
  | x :: r, m => by
    obtain ⟨h1, h2⟩ := minI_is r (if x < m then x else m)
    show minI (if x < m then x else m) r ∈ _ ∧ ∀ y, y ∈ _ → minI (if x < m then x else m) r ≤ y
    constructor
    · rcases List.mem_cons.mp h1 with h | h
      · rw [h]
        split
        · exact List.mem_cons_of_mem _ List.mem_cons_self
        · exact List.mem_cons_self
      · exact List.mem_cons_of_mem _ (List.mem_cons_of_mem _ h)
    · intro y hy
      have hm := h2 _ List.mem_cons_self
      have hz : ∃ z, z = (if x < m then x else m) ∧ (z ≤ m ∧ z ≤ x) := ⟨_, rfl, by split <;> omega⟩
      obtain ⟨z, ez, hz1, hz2⟩ := hz
      rw [← ez] at hm h2 ⊢
      rcases List.mem_cons.1 hy with h | h
      · omega
      · rcases List.mem_cons.mp h with h | h
        · omega
        · exact h2 y (List.mem_cons_of_mem _ h)
/-- a value's type -/
def tyD : PyData → String
  | .none => "NoneType"
  | .bool _ => "bool"
  | .int _ => "int"
  | .str _ => "str"
  | .list _ => "list"
  | .tuple _ => "tuple"
  | .dict _ => "dict"
theorem tyX {d : PyData} {v : V} (nd : ∀ k, d ≠ .dict k) (g : GoodB K S H d v) : TyX K H v (.type (tyD d)) := by
  cases d with
  | none => rw [g.none]; exact .base .non
  | bool b => rw [g.bool]; exact .base (.bl b)
  | int i => rw [g.int]; exact .base (.int i)
  | str x => rw [g.str]; exact .base (.str x)
  | list _ =>
    obtain ⟨a, vs, e, hr, _⟩ := g.list
    rw [e]
    rcases hr with (hr | ⟨o, hr⟩) | ⟨its, n, hr, _⟩
    · exact .base (.lst hr)
    · exact .base (.frz hr)
    · exact .kList hr rfl
  | tuple _ =>
    obtain ⟨a, vs, e, hr, _⟩ := g.tuple
    rw [e]
    rcases hr with (hr | ⟨o, hr⟩) | ⟨o, its, n, hk, hc, _⟩
    · exact .base (.tup hr)
    · exact .fTuple hr
    · exact .kTuple hk hc
  | dict k => exact (nd k rfl).elim
def tyOkT (t : String) : Bool := t == "int" || t == "bool" || t == "str" || t == "tuple" || t == "list"
theorem kit_all : ∀ a ∈ ["NoneType", "bool", "int", "str", "list", "tuple"], ∀ t ∈ ["int", "bool", "str", "tuple", "list"], kitB a t = some (a == t || (a == "bool" && t == "int")) := by
  decide +kernel
theorem kit_d {d : PyData} {t : String} {b : Bool} (ht : tyOkT t = true) (h : tyIs t d = some b) : kitB (tyD d) t = some b := by
  have ht' : t ∈ ["int", "bool", "str", "tuple", "list"] := by
    unfold tyOkT at ht
    simp only [Bool.or_eq_true, beq_iff_eq] at ht
    rcases ht with (((h | h) | h) | h) | h <;> subst h <;> decide
  cases d with
  | dict _ => cases h
  | none =>
    rw [kit_all _ (by decide) t ht']
    simp only [tyIs, Option.some.injEq] at h
    subst h
    simp only [List.mem_cons, List.not_mem_nil, or_false] at ht'
    rcases ht' with rfl | rfl | rfl | rfl | rfl <;> rfl
  | bool _ =>
    show kitB "bool" t = _
    rw [kit_all _ (by decide) t ht']
    simp only [tyIs, Option.some.injEq] at h
    subst h
    simp only [List.mem_cons, List.not_mem_nil, or_false] at ht'
    rcases ht' with rfl | rfl | rfl | rfl | rfl <;> rfl
  | int _ =>
    show kitB "int" t = _
    rw [kit_all _ (by decide) t ht']
    simp only [tyIs, Option.some.injEq] at h
    subst h
    simp only [List.mem_cons, List.not_mem_nil, or_false] at ht'
    rcases ht' with rfl | rfl | rfl | rfl | rfl <;> rfl
  | str _ =>
    show kitB "str" t = _
    rw [kit_all _ (by decide) t ht']
    simp only [tyIs, Option.some.injEq] at h
    subst h
    simp only [List.mem_cons, List.not_mem_nil, or_false] at ht'
    rcases ht' with rfl | rfl | rfl | rfl | rfl <;> rfl
  | list _ =>
    show kitB "list" t = _
    rw [kit_all _ (by decide) t ht']
    simp only [tyIs, Option.some.injEq] at h
    subst h
    simp only [List.mem_cons, List.not_mem_nil, or_false] at ht'
    rcases ht' with rfl | rfl | rfl | rfl | rfl <;> rfl
  | tuple _ =>
    show kitB "tuple" t = _
    rw [kit_all _ (by decide) t ht']
    simp only [tyIs, Option.some.injEq] at h
    subst h
    simp only [List.mem_cons, List.not_mem_nil, or_false] at ht'
    rcases ht' with rfl | rfl | rfl | rfl | rfl <;> rfl
end
section
variable {X : Cx}
theorem cv_len : CallR X (.builtin "len") (rC1 X.K .len) := by
  rintro pins s σ H xs us Q I r h
  obtain ⟨x, rfl, S, dx, d, hd, gx, hp, post⟩ := h
  cases dx with
  | list ds =>
    cases hp
    obtain ⟨a, vs, e, hr, g⟩ := gx.list
    refine call_len_seq pins s σ H _ us Q I r ⟨a, vs, by rw [e], .inl hr.sq, ?_⟩
    rw [g.length]
    exact PostV.int post
  | tuple ds =>
    cases hp
    obtain ⟨a, vs, e, hr, g⟩ := gx.tuple
    refine call_len_seq pins s σ H _ us Q I r ⟨a, vs, by rw [e], .inr hr, ?_⟩
    rw [g.length]
    exact PostV.int post
  | str z =>
    have hp' : (if z.length ≤ big then some (PyData.int z.length) else none) = some d := hp
    split at hp'
    · cases hp'
      rename_i hz
      exact call_len_str pins s σ H _ us Q I r ⟨z, by rw [gx.str], by rw [← big_eq]; exact hz, PostV.int post⟩
    · cases hp'
  | dict kvs =>
    obtain ⟨a, e, hh⟩ := gx.dict
    subst e
    obtain ⟨u, rfl, ru⟩ := (vals1 r)
    cases ru
    rcases hh with ⟨ks, hk, gk⟩ | ⟨rr, ks, er, hk, gk⟩
    · have ed : d = .int ks.length := by
        cases kvs with
        | nil =>
          cases hp
          rw [gk.length]
        | cons p r =>
          obtain ⟨k0, d0⟩ := p
          have hl := gk.length
          simp only [GoodK] at gk
          obtain ⟨q, _, _, _, ek, _⟩ := gk
          subst ek
          rw [hl]
          cases q <;> (cases hp; rfl)
      subst ed
      exact d_len I hk fun t s' I' => ⟨.int _, H, I', ⟨_, rfl⟩, PostV.int post⟩
    · subst er
      cases hp
      have hl : ks.length = rr.length := by
        clear hk post hd gx
        induction rr generalizing ks with
        | nil =>
          have e : ks = [] := gk
          rw [e]; rfl
        | cons p q ih =>
          obtain ⟨k0, d0⟩ := p
          obtain ⟨q0, v0, r0, e, _, _, g2⟩ := gk
          rw [e, List.length_cons, List.length_cons, ih _ g2]
      rw [← hl] at post
      exact call_len_dT pins s σ H _ _ Q I r ⟨a, ks, rfl, hk, PostV.int post⟩
  | none => cases hp
  | bool _ => cases hp
  | int _ => cases hp
theorem cv_all (hc : X.calm = true) : CallR X (.builtin "all") (rC1 X.K .all) := by
  rintro pins s σ H xs us Q I r h
  obtain ⟨x, rfl, S, dx, d, hd, gx, hp, post⟩ := h
  cases dx <;> first | (cases hp; done) | skip
  rename_i ds
  have hp' : (asBools ds).map (fun bs => PyData.bool (bs.all id)) = some d := hp
  rw [Option.map_eq_some_iff] at hp'
  obtain ⟨bs, hb, rfl⟩ := hp'
  obtain ⟨a, vs, e, hr, g⟩ := gx.list
  exact cr_all hc pins s σ H _ us Q I r ⟨a, bs, by rw [e], by rw [← bools_v hb g]; exact hr.sq, PostV.bool post⟩
theorem cv_any (hc : X.calm = true) : CallR X (.builtin "any") (rC1 X.K .any) := by
  rintro pins s σ H xs us Q I r h
  obtain ⟨x, rfl, S, dx, d, hd, gx, hp, post⟩ := h
  cases dx <;> first | (cases hp; done) | skip
  rename_i ds
  have hp' : (asBools ds).map (fun bs => PyData.bool (bs.any id)) = some d := hp
  rw [Option.map_eq_some_iff] at hp'
  obtain ⟨bs, hb, rfl⟩ := hp'
  obtain ⟨a, vs, e, hr, g⟩ := gx.list
  exact cr_any hc pins s σ H _ us Q I r ⟨a, bs, by rw [e], by rw [← bools_v hb g]; exact hr.sq, PostV.bool post⟩
theorem cv_sum (hc : X.calm = true) : CallR X (.builtin "sum") (rC1 X.K .sum) := by
  rintro pins s σ H xs us Q I r h
  obtain ⟨x, rfl, S, dx, d, hd, gx, hp, post⟩ := h
  cases dx <;> first | (cases hp; done) | skip
  rename_i ds
  have hp' : (asInts ds).map (fun bs => PyData.int bs.sum) = some d := hp
  rw [Option.map_eq_some_iff] at hp'
  obtain ⟨bs, hb, rfl⟩ := hp'
  obtain ⟨a, vs, e, hr, g⟩ := gx.list
  exact cr_sum hc pins s σ H _ us Q I r ⟨a, bs, by rw [e], by rw [← ints_v hb g]; exact hr.sq, PostV.int post⟩
theorem cv_mx (hc : X.calm = true) : CallR X (.builtin "max") (rC1 X.K .mx) := by
  rintro pins s σ H xs us Q I r h
  obtain ⟨x, rfl, S, dx, d, hd, gx, hp, post⟩ := h
  cases dx <;> first | (cases hp; done) | skip
  rename_i ds
  have hp' : (match asInts ds with
    | some (i :: is) => some (PyData.int (maxI i is))
    | _ => none) = some d := hp
  split at hp'
  · rename_i i is hb
    cases hp'
    obtain ⟨a, vs, e, hr, g⟩ := gx.list
    refine cr_max hc pins s σ H _ us Q I r ⟨a, i :: is, by rw [e], by rw [← ints_v hb g]; exact hr.sq, Nat.succ_pos _, fun m hm hall => ?_⟩
    have q := PostV.int post
    have k := maxI_is is i
    have e2 : m = maxI i is := by
      have h1 := hall _ k.1
      have h2 := k.2 m hm
      omega
    rw [e2]
    exact q
  · cases hp'
theorem cv_mn (hc : X.calm = true) : CallR X (.builtin "min") (rC1 X.K .mn) := by
  rintro pins s σ H xs us Q I r h
  obtain ⟨x, rfl, S, dx, d, hd, gx, hp, post⟩ := h
  cases dx <;> first | (cases hp; done) | skip
  rename_i ds
  have hp' : (match asInts ds with
    | some (i :: is) => some (PyData.int (minI i is))
    | _ => none) = some d := hp
  split at hp'
  · rename_i i is hb
    cases hp'
    obtain ⟨a, vs, e, hr, g⟩ := gx.list
    refine cr_min hc pins s σ H _ us Q I r ⟨a, i :: is, by rw [e], by rw [← ints_v hb g]; exact hr.sq, Nat.succ_pos _, fun m hm hall => ?_⟩
    have q := PostV.int post
    have k := minI_is is i
    have e2 : m = minI i is := by
      have h1 := hall _ k.1
      have h2 := k.2 m hm
      omega
    rw [e2]
    exact q
  · cases hp'
theorem cv_tuple : CallR X (.type "tuple") (rC1 X.K .tuple) := by
  rintro pins s σ H xs us Q I r h
  obtain ⟨x, rfl, S, dx, d, hd, gx, hp, post⟩ := h
  cases dx <;> first | (cases hp; done) | skip
  · cases hp
    obtain ⟨a, vs, e, hr, g⟩ := gx.list
    exact call_tuple_of pins s σ H _ us Q I r ⟨a, vs, by rw [e], .inl ⟨hr.sq, fun p hp => PostV.newT post g p hp⟩⟩
  · cases hp
    obtain ⟨a, vs, e, hr, g⟩ := gx.tuple
    exact call_tuple_of pins s σ H _ us Q I r ⟨a, vs, by rw [e], .inr ⟨hr, PostV.oldT post hr g⟩⟩
theorem cv_list : CallR X (.type "list") (fun xs H Q => ∃ x S dx d, xs = [x] ∧ (∀ k, dx ≠ .dict k) ∧ Dom S H ∧ GoodB X.K S H dx x ∧ prim .list [dx] = some d ∧ PostV X.K S H true d Q) := by
  rintro pins s σ H xs us Q I r h
  obtain ⟨x, S, dx, d, rfl, nd, hd, gx, hp, post⟩ := h
  cases dx <;> first | (cases hp; done) | skip
  · cases hp
    obtain ⟨a, vs, e, hr, g⟩ := gx.list
    exact call_list_of pins s σ H _ us Q I r ⟨a, vs, by rw [e], .inl hr.sq, fun p hp => PostV.newL post hd g p hp⟩
  · cases hp
    obtain ⟨a, vs, e, hr, g⟩ := gx.tuple
    exact call_list_of pins s σ H _ us Q I r ⟨a, vs, by rw [e], .inr hr, fun p hp => PostV.newL post hd g p hp⟩
theorem cv_int : CallR X (.type "int") (rC1 X.K .int) := by
  rintro pins s σ H xs us Q I r h
  obtain ⟨x, rfl, S, dx, d, hd, gx, hp, post⟩ := h
  cases dx <;> first | (cases hp; done) | skip
  · rename_i b
    cases hp
    exact call_int1 pins s σ H _ us Q I r (.inr ⟨b, by rw [gx.bool], PostV.int post⟩)
  · rename_i i
    cases hp
    exact call_int1 pins s σ H _ us Q I r (.inl ⟨i, by rw [gx.int], PostV.int post⟩)
theorem cv_isi {t : String} (ht : tyOkT t = true) : CallR X (.builtin "isinstance") (fun xs H Q => ∃ x, xs = [x, .ty t] ∧ rV1 X.K (.isi t) x H Q) := by
  rintro pins s σ H xs us Q I r h
  obtain ⟨x, rfl, S, dx, d, hd, gx, hp, post⟩ := h
  have hp' : (tyIs t dx).map PyData.bool = some d := hp
  rw [Option.map_eq_some_iff] at hp'
  obtain ⟨b, hb, rfl⟩ := hp'
  have nd : ∀ k, dx ≠ .dict k := fun k e => by
    subst e
    cases hb
  exact call_isi pins s σ H _ us Q I r ⟨x, .ty t, _, .type t, b, rfl, .ty t, tyX nd gx, kit_ty (kit_d ht hb), PostV.bool post⟩
end
end MP
end
section
set_option Elab.async false
set_option linter.all false
set_option autoImplicit false
set_option maxRecDepth 100000
set_option maxHeartbeats 4000001
/-! max and min of a tuple of ints, by max_tuple_data and min_tuple_data of the library -/
namespace MP
open PySem.Spec PyProof.Rows L2 PySem

theorem reads_ints {h : Heap} : ∀ {is : List Int} {us : List Value}, Vals (is.map V.int) us → ∃ as, PySem.ReadsAll h us (is.map PyData.int) as
  | [], _, .nil => ⟨[], .nil⟩
  | i :: is, _, .cons ⟨t, e⟩ r => by
    obtain ⟨as, q⟩ := reads_ints r
    subst e
    exact ⟨_, .cons (.int i t) q⟩
theorem ints_alike (is : List Int) : PySem.W.AlikeAll (is.map PyData.int) := by
  refine ⟨fun x hx y hy => ?_, fun x hx e => ?_⟩
  · obtain ⟨i, _, rfl⟩ := List.mem_map.mp hx
    obtain ⟨j, _, rfl⟩ := List.mem_map.mp hy
    rfl
  · obtain ⟨i, _, rfl⟩ := List.mem_map.mp hx
    cases e
theorem ints_depth : ∀ is : List Int, PyData.depthAll (is.map PyData.int) = 0
  | [] => rfl
  | i :: is => by
    rw [List.map_cons]
    unfold PyData.depthAll
    rw [ints_depth is]
    rfl
theorem max_fold : ∀ (is : List Int) (i : Int), is.foldl max i = maxI i is
  | [], _ => rfl
  | j :: is, i => by
    have e : max i j = if i < j then j else i := by
      rw [Int.max_def]
      split <;> split <;> omega
    unfold maxI
    rw [List.foldl_cons, e, max_fold is]
theorem min_fold : ∀ (is : List Int) (i : Int), is.foldl min i = minI i is
  | [], _ => rfl
  | j :: is, i => by
    have e : min i j = if j < i then j else i := by
      rw [Int.min_def]
      split <;> split <;> omega
    unfold minI
    rw [List.foldl_cons, e, min_fold is]
theorem asInts_map : ∀ {ds : List PyData} {is : List Int}, asInts ds = some is → ds = is.map .int
  | [], _, h => by cases h; rfl
  | d :: ds, is, h => by
    cases d <;> first | (cases h; done) | skip
    simp only [asInts, Option.map_eq_some_iff] at h
    obtain ⟨r, hr, rfl⟩ := h
    rw [asInts_map hr, List.map_cons]
section
variable {X : Cx}
theorem cv_mxT (hc : X.calm = true) (hu : X.A.units + 64 < cLine) : CallR X (.builtin "max") (rC1 X.K .mxT) := by
  rintro pins s σ H xs us Q I r h
  obtain ⟨x, rfl, S, dx, d, hd, gx, hp, post⟩ := h
  cases dx <;> first | (cases hp; done) | skip
  rename_i ds
  have hp : (match asInts ds with
    | some (i :: is) => some (PyData.int (maxI i is))
    | _ => none) = some d := hp
  split at hp
  · rename_i i is hb
    cases hp
    obtain ⟨a, vs, rfl, ht, g⟩ := gx.tuple
    obtain rfl := ints_v hb g
    obtain rfl := Vals.ref1 r
    obtain ⟨its, rv, pl, _⟩ := I.tuple ht
    obtain ⟨as, ra⟩ := reads_ints (h := s.heap) rv
    refine PySem.W.max_tuple_data (x := .int i) (xs := is.map .int) (I.ok.hd hc) pl (by simpa using ra) (ints_alike (i :: is)) (by have := ints_depth (i :: is); rw [List.map_cons] at this; rw [this]; omega) fun j v h' tk bs hv rd keep => ?_
    rw [PySem.W.maxD_ints, max_fold] at rd
    cases rd
    exact ⟨.int _, H, I.kept keep, ⟨_, rfl⟩, PostV.int post⟩
  · cases hp
theorem cv_mnT (hc : X.calm = true) (hu : X.A.units + 64 < cLine) : CallR X (.builtin "min") (rC1 X.K .mnT) := by
  rintro pins s σ H xs us Q I r h
  obtain ⟨x, rfl, S, dx, d, hd, gx, hp, post⟩ := h
  cases dx <;> first | (cases hp; done) | skip
  rename_i ds
  have hp : (match asInts ds with
    | some (i :: is) => some (PyData.int (minI i is))
    | _ => none) = some d := hp
  split at hp
  · rename_i i is hb
    cases hp
    obtain ⟨a, vs, rfl, ht, g⟩ := gx.tuple
    obtain rfl := ints_v hb g
    obtain rfl := Vals.ref1 r
    obtain ⟨its, rv, pl, _⟩ := I.tuple ht
    obtain ⟨as, ra⟩ := reads_ints (h := s.heap) rv
    refine PySem.W.min_tuple_data (x := .int i) (xs := is.map .int) (I.ok.hd hc) pl (by simpa using ra) (ints_alike (i :: is)) (by have := ints_depth (i :: is); rw [List.map_cons] at this; rw [this]; omega) fun j v h' tk bs hv rd keep => ?_
    rw [PySem.W.minD_ints, min_fold] at rd
    cases rd
    exact ⟨.int _, H, I.kept keep, ⟨_, rfl⟩, PostV.int post⟩
  · cases hp
end
end MP
end
section
set_option Elab.async false
set_option linter.all false
set_option autoImplicit false
set_option maxRecDepth 100000
set_option maxHeartbeats 4000001
namespace MP
open PySem.Spec PyProof.Rows L2 PySem

section
variable {le : PyData → PyData → Bool}
theorem insBy_mem (x : PyData) : ∀ (l : List PyData) (z : PyData), z ∈ insBy le x l → z = x ∨ z ∈ l
  | [], z, h => by
    rcases List.mem_cons.mp h with h | h
    · exact .inl h
    · cases h
  | y :: r, z, h => by
    unfold insBy at h
    split at h
    · rcases List.mem_cons.mp h with h | h
      · exact .inl h
      · exact .inr h
    · rcases List.mem_cons.mp h with h | h
      · exact .inr (h ▸ List.mem_cons_self)
      · rcases insBy_mem x r z h with q | q
        · exact .inl q
        · exact .inr (List.mem_cons_of_mem _ q)
theorem insBy_pw (t : PySem.W.TotalLe le) (x : PyData) : ∀ l : List PyData, l.Pairwise (fun a b => le a b = true) → (insBy le x l).Pairwise (fun a b => le a b = true)
  | [], _ => List.pairwise_singleton _ _
  | y :: r, h => by
    have h' := (List.pairwise_cons.mp h)
    unfold insBy
    split
    · rename_i c
      refine List.pairwise_cons.mpr ⟨fun z hz => ?_, h⟩
      rcases List.mem_cons.mp hz with q | q
      · rw [q]; exact c
      · exact t.trans _ _ _ c (h'.1 z q)
    · rename_i c
      refine List.pairwise_cons.mpr ⟨fun z hz => ?_, insBy_pw t x r h'.2⟩
      rcases insBy_mem x r z hz with q | q
      · rw [q]
        rcases t.total y x with w | w
        · exact w
        · exact absurd w c
      · exact h'.1 z q
theorem insBy_filter (t : PySem.W.TotalLe le) (c x : PyData) : ∀ l : List PyData, (insBy le x l).filter (PySem.W.sameRank le c) = (x :: l).filter (PySem.W.sameRank le c)
  | [] => rfl
  | y :: r => by
    unfold insBy
    split
    · rfl
    · rename_i h
      rw [List.filter_cons, insBy_filter t c x r, List.filter_cons, List.filter_cons, List.filter_cons]
      by_cases hx : PySem.W.sameRank le c x = true
      · by_cases hy : PySem.W.sameRank le c y = true
        · exfalso
          unfold PySem.W.sameRank at hx hy
          rw [Bool.and_eq_true] at hx hy
          exact h (t.trans _ _ _ hx.2 hy.1)
        · rw [if_neg hy, if_neg hy]
      · rw [if_neg hx, if_neg hx]
theorem isort_pw (t : PySem.W.TotalLe le) : ∀ l : List PyData, (isort le l).Pairwise (fun a b => le a b = true)
  | [] => List.Pairwise.nil
  | x :: r => insBy_pw t x _ (isort_pw t r)
theorem isort_filter (t : PySem.W.TotalLe le) (c : PyData) : ∀ l : List PyData, (isort le l).filter (PySem.W.sameRank le c) = l.filter (PySem.W.sameRank le c)
  | [] => rfl
  | x :: r => by
    show (insBy le x (isort le r)).filter _ = _
    rw [insBy_filter t, List.filter_cons, List.filter_cons, isort_filter t c r]
theorem isort_eq (t : PySem.W.TotalLe le) (l : List PyData) : isort le l = l.mergeSort le := PySem.W.sort_unique t (isort_pw t l) fun c => isort_filter t c l
end
theorem dle_total : PySem.W.TotalLe dle := by
  unfold dle PySem.W.dataLe
  exact PySem.W.sortLe_total _ _ _
theorem goodL_pairs {K : PySem.W.Frag} {S : List Addr} {H : Hp} : ∀ zs : List (V × PyData), (∀ p, p ∈ zs → Good K S H p.2 p.1) → GoodL K S H (zs.map (·.2)) (zs.map (·.1))
  | [], _ => .nil
  | p :: r, h => .cons (h p List.mem_cons_self) (goodL_pairs r fun q hq => h q (List.mem_cons_of_mem _ hq))
theorem pairs_goodL {K : PySem.W.Frag} {S : List Addr} {H : Hp} : ∀ {ds : List PyData} {vs : List V}, GoodL K S H ds vs → (∀ p, p ∈ vs.zip ds → Good K S H p.2 p.1) ∧ (vs.zip ds).map (·.2) = ds ∧ (vs.zip ds).map (·.1) = vs
  | [], vs, g => by
    simp only [GoodL] at g
    subst g
    exact ⟨fun p h => (by cases h), rfl, rfl⟩
  | d :: ds, vs, g => by
    simp only [GoodL] at g
    obtain ⟨v, r, e, h1, h2⟩ := g
    subst e
    obtain ⟨a, b, c⟩ := pairs_goodL h2
    rw [List.zip_cons_cons]
    refine ⟨fun p h => ?_, by rw [List.map_cons, b], by rw [List.map_cons, c]⟩
    rcases List.mem_cons.1 h with q | q
    · rw [q]; exact h1
    · exact a p q
theorem vals_each : ∀ {vs : List V} {us : List Value} {ds : List PyData}, Vals vs us → vs.length = ds.length → PySem.W.EachIs (fun u (b : V × PyData) => RelV b.1 u) us (vs.zip ds)
  | _, _, [], .nil, _ => .nil
  | _, _, d :: ds, .cons r t, h => .cons r (vals_each t (by simpa using h))
theorem each_vals : ∀ {us : List Value} {bs : List (V × PyData)}, PySem.W.EachIs (fun u (b : V × PyData) => RelV b.1 u) us bs → Vals (bs.map (·.1)) us
  | _, _, .nil => .nil
  | _, _, .cons r t => .cons r (each_vals t)
theorem sortOk_parts {ds : List PyData} (h : sortOk ds = true) : PySem.W.AllAlike ds ∧ PySem.W.Sortable ds ∧ ds.length ≤ big ∧ ∀ d, d ∈ ds → d.depth ≤ 60 ∧ d.canLay0 = true := by
  unfold sortOk at h
  simp only [decide_eq_true_eq, Bool.and_eq_true] at h
  rcases h with ⟨⟨⟨h1, h2⟩, h3⟩, h4⟩
  refine ⟨fun d hd e he => ?_, ?_, h3, fun d hd => ?_⟩
  · unfold alike1 at h1
    exact List.all_eq_true.mp (List.all_eq_true.mp h1 d hd) e he
  · unfold sortable at h2
    rw [Bool.or_eq_true] at h2
    rcases h2 with h2 | h2
    · refine .inl fun d hd => ?_
      have q := List.all_eq_true.mp h2 d hd
      split at q
      · exact ⟨_, _, rfl⟩
      · cases q
    · refine .inr fun d hd => ?_
      have q := List.all_eq_true.mp h2 d hd
      split at q
      · cases q
      · cases q
      · rename_i n1 n2
        exact ⟨n1, n2⟩
  · have q := List.all_eq_true.mp h4 d hd
    simp only [decide_eq_true_eq, Bool.and_eq_true] at q
    exact q
section
variable {X : Cx}
theorem cv_sorted (hu : X.A.units + 64 < cLine) : CallR X (.builtin "sorted") (rC1 X.K .sorted) := by
  rintro pins s σ H xs us Q I r h
  obtain ⟨x, rfl, S, dx, d, hd, gx, hp, post⟩ := h
  cases dx <;> first | (cases hp; done) | skip
  rename_i ds
  have hp' : (if sortOk ds then some (PyData.list (isort dle ds)) else none) = some d := hp
  split at hp'
  · rename_i c
    cases hp'
    obtain ⟨ha, hs, hl, hdp⟩ := sortOk_parts c
    obtain ⟨a, vs, e, hr, g⟩ := gx.list
    subst e
    obtain ⟨u, rfl, ru⟩ := (vals1 r)
    cases ru
    obtain ⟨its, rv, pl, hz⟩ := I.list hr.sq
    obtain ⟨pg, p2, p1⟩ := pairs_goodL g
    have ev := vals_each (ds := ds) rv g.length
    refine PySem.W.sorted_data (enc := fun b : V × PyData => b.2) pl.isList ev ?_ (by rw [p2]; exact ha) (by rw [p2]; exact hs) (by rw [List.length_zip, g.length, Nat.min_self, ← big_eq]; exact hl) (fun b hb => ?_) fun out hlen ho => ?_
    · refine PySem.W.EachIs.of_zip ev.length fun p hp => ?_
      have hb : p.2 ∈ vs.zip ds := (List.of_mem_zip hp).2
      have hr := ev.zip p hp
      have hm : p.2.2 ∈ ds := by
        rw [← p2]
        exact List.mem_map.mpr ⟨_, hb, rfl⟩
      exact Dp.reads I _ _ _ (Good.dp _ _ (pg _ hb) (hdp _ hm).2) hr
    · have hm : b.2 ∈ ds := by
        rw [← p2]
        exact List.mem_map.mpr ⟨_, hb, rfl⟩
      have := (hdp _ hm).1
      show X.A.units + 2 + b.2.depth < cLine
      omega
    · have hv := each_vals ho
      have em : ((vs.zip ds).mergeSort (PySem.W.dataLe false fun b : V × PyData => b.2)).map (·.2) = isort dle ds := by
        rw [PySem.W.sort_maps (r := PySem.W.dataLe false fun b : V × PyData => b.2) (s := dle) (fun b : V × PyData => b.2) (fun _ _ _ _ => rfl), p2, isort_eq dle_total]
      have gn : GoodL X.K S H (isort dle ds) (((vs.zip ds).mergeSort (PySem.W.dataLe false fun b : V × PyData => b.2)).map (·.1)) := by
        rw [← em]
        exact goodL_pairs _ fun p hp => pg p ((List.mergeSort_perm _ _).mem_iff.mp hp)
      obtain ⟨n, hn⟩ := sortedAll_at s.heap its (List.toArray out)
      refine ⟨.ref (s.heap.objs.size + 1), _, I.laid (t' := s.toks) (o := .lst (((vs.zip ds).mergeSort (PySem.W.dataLe false fun b : V × PyData => b.2)).map (·.1))) (fun b o q => sortedAll_old q) (Nat.le_succ _) ?_, rfl, PostV.newL post hd gn _ (I.hok.fresh (Nat.le_succ _))⟩
      refine ⟨?_, out, n, hv, hn⟩
      rw [List.length_map, (List.mergeSort_perm _ _).length_eq, List.length_zip, g.length, Nat.min_self, ← big_eq]
      exact hl
  · cases hp'
end
end MP
end
section
set_option Elab.async false
set_option linter.all false
set_option autoImplicit false
set_option maxRecDepth 100000
set_option maxHeartbeats 4000001
/-! PROVENANCE of MiniMM: parts of this text began as rows of the library's PyProof/WalkInts and were then rewritten; the plan is the library's -/
namespace MP
open PySem.Spec PyProof.Rows L2 PySem
/-! ### the greater, the lesser of two texts -/
/-- two texts, by their place -/
def two2 (a b : Str) (t u : Tok) (i : Nat) : Option (Str × Tok) := match i with
  | 0 => some (a, t)
  | 1 => some (b, u)
  | _ => none
def isT (a b : Str) (t u : Tok) (i : Nat) (v : Value) : Prop := ∃ p, two2 a b t u i = some p ∧ v = .str p.1 p.2
theorem isT_of {a b : Str} {t u : Tok} {i : Nat} {v : Value} (h : (#[Value.str a t, .str b u] : Array Value)[i]? = some v) : isT a b t u i v := by
  match i, h with
  | 0, h => exact ⟨(a, t), rfl, (Option.some.inj h).symm⟩
  | 1, h => exact ⟨(b, u), rfl, (Option.some.inj h).symm⟩
  | i + 2, h => simp at h
def txtOf (a b : Str) (t u : Tok) (i : Nat) : Str := match two2 a b t u i with
  | some p => p.1
  | none => a
theorem isT_txt {a b : Str} {t u : Tok} {i : Nat} {v : Value} (h : isT a b t u i v) : ∃ k, v = .str (txtOf a b t u i) k := by
  obtain ⟨p, hp, hv⟩ := h
  refine ⟨p.2, ?_⟩
  unfold txtOf
  rw [hp]
  exact hv
section
variable {prog : Program} {w : World} {A : Around} {s : Shared} {E : Value → Shared → Prop} {a b : Str} {t u : Tok}
theorem gt_txt : CmpOf prog w A .Gt (isT a b t u) fun i j => ltStr (txtOf a b t u j) (txtOf a b t u i) := by
  intro i j vi vj s Q E hi hj h
  obtain ⟨k, rfl⟩ := isT_txt hi; obtain ⟨l, rfl⟩ := isT_txt hj
  exact richCompare_gives (op := .Gt) (typeIs_str s _ k) (typeIs_str s _ l) F.slot_str_gt F.entry_str_gt (F.args_str_gt_2 _ _) (gives_str_gt _ _ k l) (fun x => nomatch x) h
theorem lt_txt : CmpOf prog w A .Lt (isT a b t u) fun i j => ltStr (txtOf a b t u i) (txtOf a b t u j) := by
  intro i j vi vj s Q E hi hj h
  obtain ⟨k, rfl⟩ := isT_txt hi; obtain ⟨l, rfl⟩ := isT_txt hj
  exact richCompare_gives (op := .Lt) (typeIs_str s _ k) (typeIs_str s _ l) F.slot_str_lt F.entry_str_lt (F.args_str_lt_2 _ _) (gives_str_lt _ _ k l) (fun x => nomatch x) h
/-- the walk over the pair that max and min make, for either -/
theorem walk_two {op : CmpOp} {bt : Nat → Nat → Bool} {Q : Value → Shared → Prop} (calm : A.handled = none) (cmp : CmpOf prog w A.in1 op (isT a b t u) bt)
    (k : ∀ v h2 tk, isT a b t u (argBest bt 1) v → (∀ c o, s.heap.get? c = some o → h2.get? c = some o) → Q v { s with heap := h2, toks := tk }) :
    wpAny (model prog w) A.in1 (pyIter (.ref s.heap.objs.size)) (fun it s2 => ∃ I fp wr n P St bt, it = .ref I ∧ Walks prog w A.in1 I fp wr n P St ∧ St 0 s2.heap ∧ (∀ b ∈ fp, b < s2.heap.objs.size) ∧ 0 < n ∧ CmpOf prog w A.in1 op P bt ∧
      ∀ v h' tk, P (argBest bt (n - 1)) v → (∀ b o, b ∉ wr → s2.heap.get? b = some o → h'.get? b = some o) → Q v { s2 with heap := h', toks := tk }) E { s with heap := s.heap.push { cls := .type "tuple", data := .seq #[.str a t, .str b u] } } := by
  obtain ⟨h1, e1⟩ : ∃ h1 : Heap, h1 = s.heap.push { cls := .type "tuple", data := .seq #[.str a t, .str b u] } := ⟨_, rfl⟩
  have n1 : h1.objs.size = s.heap.objs.size + 1 := by rw [e1]; exact Heap.size_push _ _
  have pair : h1.IsTuple s.heap.objs.size #[.str a t, .str b u] := by rw [e1]; exact ⟨_, Heap.get?_push_size _ rfl, rfl, 0, rfl⟩
  rw [← e1]
  have apart : s.heap.objs.size ≠ h1.objs.size := by rw [n1]; exact Nat.ne_of_lt (Nat.lt_succ_self _)
  refine wpAny_pyIter_tuple pair ⟨h1.objs.size, [h1.objs.size, s.heap.objs.size], [h1.objs.size], _, _, _, bt, rfl, Walks.tuple (A := A.in1) calm _ s.heap.objs.size apart #[.str a t, .str b u], ⟨⟨_, Heap.get?_push_size _ rfl, rfl, rfl⟩, pair.push _⟩, ?_, Nat.zero_lt_succ 1, ?_, fun v h2 tk best same => ?_⟩
  · have n2 : ∀ x : Obj, (h1.push x).objs.size = s.heap.objs.size + 2 := fun x => by rw [Heap.size_push, n1]
    intro c m
    show c < (h1.push _).objs.size
    rw [n2]
    simp only [List.mem_cons, List.not_mem_nil, or_false] at m
    rcases m with z | z <;> rw [z] <;> first | (rw [n1]; exact Nat.lt_succ_self _) | exact Nat.lt_add_of_pos_right (by decide)
  · intro i j vi vj s' Q' E' hi hj
    exact cmp i j vi vj s' Q' E' (isT_of hi) (isT_of hj)
  · refine k v h2 tk (isT_of best) fun c o e => same c o (fun m => ?_) (Heap.get?_push_of_some _ (by rw [e1]; exact Heap.get?_push_of_some _ e))
    have lt := Heap.lt_size e
    rw [List.mem_singleton.mp m, n1] at lt
    exact absurd lt (Nat.not_lt.mpr (Nat.le_succ _))
theorem greater_txt {Q : Value → Shared → Prop} (calm : A.handled = none) (k : ∀ h2 tk, (∀ c o, s.heap.get? c = some o → h2.get? c = some o) → Q (if ltStr a b = true then .str b u else .str a t) { s with heap := h2, toks := tk }) :
    wpAny (model prog w) A (call (.builtin "max") [.str a t, .str b u]) Q E s := by
  refine call_max_two (walk_two calm gt_txt fun v h2 tk ⟨p, hp, hv⟩ same => ?_)
  have z := k h2 tk same
  have e : argBest (fun i j => ltStr (txtOf a b t u j) (txtOf a b t u i)) 1 = if ltStr a b = true then 1 else 0 := by simp [argBest, txtOf, two2]
  rw [e] at hp
  cases c : ltStr a b <;> rw [c] at hp z <;> cases hp <;> rw [hv] <;> exact z
theorem lesser_txt {Q : Value → Shared → Prop} (calm : A.handled = none) (k : ∀ h2 tk, (∀ c o, s.heap.get? c = some o → h2.get? c = some o) → Q (if ltStr b a = true then .str b u else .str a t) { s with heap := h2, toks := tk }) :
    wpAny (model prog w) A (call (.builtin "min") [.str a t, .str b u]) Q E s := by
  refine call_min_two (walk_two calm lt_txt fun v h2 tk ⟨p, hp, hv⟩ same => ?_)
  have z := k h2 tk same
  have e : argBest (fun i j => ltStr (txtOf a b t u i) (txtOf a b t u j)) 1 = if ltStr b a = true then 1 else 0 := by simp [argBest, txtOf, two2]
  rw [e] at hp
  cases c : ltStr b a <;> rw [c] at hp z <;> cases hp <;> rw [hv] <;> exact z
end
section
variable {X : Cx}
theorem cv_mx2 (hc : X.calm = true) : CallR X (.builtin "max") (rC2 X.K .mx2) := by
  rintro pins s σ H xs us Q I r h
  obtain ⟨x, y, rfl, S, dx, dy, d, hd, gx, gy, hp, post⟩ := h
  cases dx <;> cases dy <;> first | (cases hp; done) | skip
  · rename_i i j
    cases hp
    exact call_max2 hc pins s σ H _ us Q I r ⟨i, j, by rw [gx.int, gy.int], PostV.int post⟩
  · rename_i i j
    cases hp
    obtain ⟨u, w', rfl, ru, rw'⟩ := (vals2 r)
    rw [gx.str] at ru
    rw [gy.str] at rw'
    obtain ⟨t, rfl⟩ := ru
    obtain ⟨t', rfl⟩ := rw'
    refine greater_txt (I.ok.hd hc) fun h' tk k => ⟨_, H, I.kept k, ?_, PostV.str post⟩
    split
    · exact ⟨_, rfl⟩
    · exact ⟨_, rfl⟩
theorem cv_mn2 (hc : X.calm = true) : CallR X (.builtin "min") (rC2 X.K .mn2) := by
  rintro pins s σ H xs us Q I r h
  obtain ⟨x, y, rfl, S, dx, dy, d, hd, gx, gy, hp, post⟩ := h
  cases dx <;> cases dy <;> first | (cases hp; done) | skip
  · rename_i i j
    cases hp
    exact call_min2 hc pins s σ H _ us Q I r ⟨i, j, by rw [gx.int, gy.int], PostV.int post⟩
  · rename_i i j
    cases hp
    obtain ⟨u, w', rfl, ru, rw'⟩ := (vals2 r)
    rw [gx.str] at ru
    rw [gy.str] at rw'
    obtain ⟨t, rfl⟩ := ru
    obtain ⟨t', rfl⟩ := rw'
    refine lesser_txt (I.ok.hd hc) fun h' tk k => ⟨_, H, I.kept k, ?_, PostV.str post⟩
    split
    · exact ⟨_, rfl⟩
    · exact ⟨_, rfl⟩
end
end MP
end
section
set_option Elab.async false
set_option linter.all false
set_option autoImplicit false
set_option maxRecDepth 100000
set_option maxHeartbeats 4000001
namespace MP
open L2 PySem PySem.Spec PyProof.Rows

/-- what the classes of the refusals say -/
structure WhK (K : PySem.W.Frag) (mg : Str → Option Value) : Prop where
  at_ : ∀ c ∈ exNames, mg c = some (.ref (He.ga K c))
  exc : ∀ c ∈ exNames, ExcC K (He.ga K c)
  val : ∀ c ∈ exNames, PySem.W.kitOne K (.ref (He.ga K c)) (.type "ValueError") = some true
  site : ∀ c ∈ exNames, PySem.W.exmOne K (.ref (He.ga K c)) (.ref (He.ga K "SiteError")) = some true
  kit : ∀ c ∈ exNames, ∀ d ∈ exNames, PySem.W.kitOne K (.ref (He.ga K c)) (.ref (He.ga K d)) = some (decide (c = d))
  sup : mg "SiteError" = some (.ref (He.ga K "SiteError"))
  isi : mg "isinstance" = none
  ve : mg "ValueError" = none
/-- called with the pinned exception it gives ("refused", n) -/
def FnP (P : Program) (w : World) (K : PySem.W.Frag) (mg : Str → Option Value) (base : Heap) (CX : CXT) (k : Nat) (f : Addr) (fd : FuncData) (x : Str) (p : Addr × Obj) (n : Nat) : Prop :=
  ∀ (A : Around) (outer : List Env) (s : Shared) (H : Hp) (args : Args) (Q : VK) (E : XK), L2H.RoomH k A → L2H.PinOk outer H s p → Env0 P w K mg base A outer s H → BindsTo s fd args [(x, .ref p.1)] →
    (∀ q H', Same H H' → H q = none → H' q = some (.tup [.str "refused", .int (n : Nat)]) → Q (.ref q) H') → codeAny (model P w) A (.call (.ref f) args) (L2.CR CX outer P w H s Q E) s
end MP
end
section
set_option Elab.async false
set_option linter.all false
set_option autoImplicit false
set_option maxRecDepth 100000
set_option maxHeartbeats 4000001
namespace MP
open PySem.Spec PyProof.Rows L2 PySem

theorem PE.weak {X : Cx} {e : Expr} {t t' : TE} (h : PE X e t) (w : ∀ σ H Q, t' σ H Q → t σ H Q) : PE X e t' := ⟨fun pins s σ H Q I q => h.run pins s σ H Q I (w σ H Q q)⟩
theorem PT.weak {X : Cx} {e : Expr} {t t' : TT} (h : PT X e t) (w : ∀ σ H Q, t' σ H Q → t σ H Q) : PT X e t' := ⟨fun pins s σ H Q I q => h.run pins s σ H Q I (w σ H Q q)⟩
theorem PA.weak {X : Cx} {e : List Expr} {t t' : TA} (h : PA X e t) (w : ∀ σ H Q, t' σ H Q → t σ H Q) : PA X e t' := ⟨fun pos pins s σ H Q I q => h.run pos pins s σ H Q I (w σ H Q q)⟩
theorem PS.weak {X : Cx} {e : Stmt} {t t' : TS} (h : PS X e t) (w : ∀ D σ H, t' D σ H → t D σ H) : PS X e t' := ⟨fun pins s σ H D I q => h.run pins s σ H D I (w D σ H q)⟩
theorem PSs.weak {X : Cx} {e : List Stmt} {t t' : TS} (h : PSs X e t) (w : ∀ D σ H, t' D σ H → t D σ H) : PSs X e t' := ⟨fun pins s σ H D I q => h.run pins s σ H D I (w D σ H q)⟩

def excW (K : PySem.W.Frag) (W : WX) (c : Str) (σ : L2.St) (H : Hp) : Prop := W (.ref (He.ga K c)) none σ H
/-- what is wanted behind a result -/
def Aft {α : Type} (K : PySem.W.Frag) (H0 : Hp) (W : WX) (σ : L2.St) (S : List Addr) (H : Hp) (ρ : Rho) (r : R α) (P : List Addr → Hp → Rho → α → Prop) : Prop := match r with
  | .ok a ρ' => ∀ S' H', Evo K H0 σ S H ρ σ S' H' ρ' → P S' H' ρ' a
  | .ex c ρ' => ∀ S' H', Evo K H0 σ S H ρ σ S' H' ρ' → excW K W c σ H'
  | .st => False
/-- the reading of a meaning: K, the entry's heap, the wish about exceptions; what is wanted of the end -/
def tR {α : Type} (K : PySem.W.Frag) (H0 : Hp) (W : WX) (f : Rho → R α) (σ : L2.St) (H : Hp) (P : List Addr → Hp → Rho → α → Prop) : Prop :=
  ∃ S ρ, EnvOk K H0 S σ H ρ ∧ Aft K H0 W σ S H ρ (f ρ) P
/-- made here: nobody else has it -/
def FrE (K : PySem.W.Frag) (H0 : Hp) (S : List Addr) (H H' : Hp) (σ : L2.St) (ρ : Rho) (d : PyData) (v : V) : Prop := Frs K S H H' d v ∧ ∀ p, v = .ref p → EnvOk K H0 (p :: S) σ H' ρ
def tV (K : PySem.W.Frag) (H0 : Hp) (W : WX) (f : Rho → R (PyData × Bool)) : TE := fun σ H Q => tR K H0 W f σ H fun S' H' ρ' d => ∀ v, Good K S' H' d.1 v → (d.2 = true → FrE K H0 S' H H' σ ρ' d.1 v) → Q v H'
def tT (K : PySem.W.Frag) (H0 : Hp) (W : WX) (f : Rho → R Bool) : TT := fun σ H Q => tR K H0 W f σ H fun _ H' _ b => Q b H'
def OpdOk (K : PySem.W.Frag) (S : List Addr) (H : Hp) (σ : L2.St) : Opd → V → Prop
  | .val d, v => Good K S H d v
  | .slot i, v => σ[i]? = some (some v)
def OpdsOk (K : PySem.W.Frag) (S : List Addr) (H : Hp) (σ : L2.St) : List Opd → List V → Prop
  | [], vs => vs = []
  | o :: os, vs => ∃ v r, vs = v :: r ∧ OpdOk K S H σ o v ∧ OpdsOk K S H σ os r
def tO (K : PySem.W.Frag) (H0 : Hp) (W : WX) (f : Rho → R Opd) : TE := fun σ H Q => tR K H0 W f σ H fun S' H' _ o => ∀ v, OpdOk K S' H' σ o v → Q v H'
def tOs (K : PySem.W.Frag) (H0 : Hp) (W : WX) (f : Rho → R (List Opd)) : TA := fun σ H Q => tR K H0 W f σ H fun S' H' _ os => ∀ vs, OpdsOk K S' H' σ os vs → Q vs H'
section
variable {K : PySem.W.Frag} {H0 : Hp} {W : WX} {σ : L2.St} {S S' : List Addr} {H H' : Hp} {ρ ρ' : Rho}
/-- two in a row -/
theorem Aft.bind {α β : Type} {r : R α} {g : α → Rho → R β} {P : List Addr → Hp → Rho → β → Prop} (h : Aft K H0 W σ S H ρ (r.bind g) P) : Aft K H0 W σ S H ρ r fun S1 H1 ρ1 a => Aft K H0 W σ S1 H1 ρ1 (g a ρ1) P := by
  cases r with
  | st => exact h
  | ex c ρ' => exact h
  | ok a ρ' =>
    intro S1 H1 ev
    have h' : Aft K H0 W σ S H ρ (g a ρ') P := h
    cases hg : g a ρ' with
    | st => rw [hg] at h'; exact h'
    | ex c ρ2 => rw [hg] at h'; exact fun S2 H2 e2 => h' S2 H2 (ev.trans e2)
    | ok b ρ2 => rw [hg] at h'; exact fun S2 H2 e2 => h' S2 H2 (ev.trans e2)
/-- the end is taken on -/
theorem Aft.thn {α : Type} {r : R α} {P P' : List Addr → Hp → Rho → α → Prop} (h : Aft K H0 W σ S H ρ r P) (q : ∀ S1 H1 ρ1 a, Evo K H0 σ S H ρ σ S1 H1 ρ1 → P S1 H1 ρ1 a → P' S1 H1 ρ1 a) : Aft K H0 W σ S H ρ r P' := by
  cases r with
  | st => exact h
  | ex c ρ' => exact h
  | ok a ρ' => exact fun S1 H1 ev => q S1 H1 ρ' a ev (h S1 H1 ev)
theorem Aft.opt {α β : Type} {x : Option α} {f : α → R β} {P : List Addr → Hp → Rho → β → Prop} (h : Aft K H0 W σ S H ρ (optB x f) P) : ∃ a, x = some a ∧ Aft K H0 W σ S H ρ (f a) P := by
  cases x with
  | none => exact h.elim
  | some a => exact ⟨a, rfl, h⟩
/-- at once -/
theorem Aft.now {α : Type} {a : α} {P : List Addr → Hp → Rho → α → Prop} (E : EnvOk K H0 S σ H ρ) (h : Aft K H0 W σ S H ρ (.ok a ρ) P) : P S H ρ a := h S H (Evo.refl E)
theorem OpdOk.evo (e : EnvOk K H0 S σ H ρ) (v : Evo K H0 σ S H ρ σ S' H' ρ') : ∀ {o : Opd} {x : V}, OpdOk K S H σ o x → OpdOk K S' H' σ o x
  | .val _, _, h => v.good e h
  | .slot _, _, h => h
theorem OpdsOk.evo (e : EnvOk K H0 S σ H ρ) (v : Evo K H0 σ S H ρ σ S' H' ρ') : ∀ {o : List Opd} {x : List V}, OpdsOk K S H σ o x → OpdsOk K S' H' σ o x
  | [], _, h => h
  | o :: os, _, ⟨x, r, e1, h1, h2⟩ => ⟨x, r, e1, h1.evo e v, OpdsOk.evo e v h2⟩
/-- an operand, read when the operation is done -/
theorem OpdOk.rd (e : EnvOk K H0 S σ H ρ) : ∀ {o : Opd} {x : V} {d : PyData}, OpdOk K S H σ o x → rdO ρ o = some d → GoodB K S H d x
  | .val _, _, _, h, q => by
    cases q
    exact .inl h
  | .slot i, x, d, h, q => by
    have h' : σ[i]? = some (some x) := h
    simp only [rdO, Option.bind_eq_some_iff] at q
    obtain ⟨s, hs, q⟩ := q
    cases s with
    | no => cases q
    | sh d' =>
      cases q
      obtain ⟨v, hv, g⟩ := e.sh i d hs
      rw [h'] at hv
      cases hv
      exact .inl g
    | mu t d' =>
      cases q
      obtain ⟨a, ha, _, hc, _⟩ := e.mu i t d (.inl hs)
      rw [h'] at ha
      cases ha
      exact .inr ⟨a, rfl, hc⟩
    | lk t d' =>
      cases q
      obtain ⟨a, ha, _, hc, _⟩ := e.mu i t d (.inr hs)
      rw [h'] at ha
      cases ha
      exact .inr ⟨a, rfl, hc⟩
end
/-! ### what is owned becomes shared -/
theorem set_get {ρ : Rho} {i j : Nat} {s t : Sl} (h : (ρ.set i s)[j]? = some t) : (j = i ∧ t = s) ∨ (j ≠ i ∧ ρ[j]? = some t) := by
  by_cases e : j = i
  · subst e
    refine .inl ⟨rfl, ?_⟩
    rw [List.getElem?_set_self'] at h
    cases q : ρ[j]? with
    | none => rw [q] at h; cases h
    | some x => rw [q] at h; cases h; rfl
  · rw [List.getElem?_set_ne (Ne.symm e)] at h
    exact .inr ⟨e, h⟩
section
variable {K : PySem.W.Frag} {H0 : Hp} {σ : L2.St} {S : List Addr} {H : Hp} {ρ : Rho}
theorem Cont.frz {a : Addr} (hn : a ∉ S) : ∀ {d : PyData}, frzOk d = true → Cont K S H a d → Good K S H d (.ref a)
  | .list ds, _, h => by
    obtain ⟨vs, hr, g⟩ := h
    simp only [Good]
    exact ⟨a, vs, rfl, .inl ⟨hn, .inl hr⟩, g⟩
  | .dict ds, f, h => by
    simp only [Good]
    exact ⟨a, rfl, hn, h.imp (fun ⟨ks, hk, g⟩ => ⟨ks, .inl hk, g⟩) id⟩
  | .none, _, h => h.elim
  | .bool _, _, h => h.elim
  | .int _, _, h => h.elim
  | .str _, _, h => h.elim
  | .tuple _, _, h => h.elim
theorem EnvOk.frz (E : EnvOk K H0 S σ H ρ) {i : Nat} {d : PyData} {a : Addr} (hi : ρ[i]? = some (.mu true d)) (ha : σ[i]? = some (some (.ref a))) (f : frzOk d = true) :
    ∃ S', Evo K H0 σ S H ρ σ S' H (ρ.set i (.sh d)) ∧ Good K S' H d (.ref a) ∧ (∀ b, b ∈ S' → b ∈ S) ∧ (∀ b, b ∈ S → b = a ∨ b ∈ S') ∧ a ∉ S' := by
  obtain ⟨a', ha', hS, hc, hf⟩ := E.mu i true d (.inl hi)
  rw [ha] at ha'
  cases ha'
  have sub : ∀ b, b ∈ S.filter (fun b => decide (b ≠ a)) → b ∈ S := fun b h => (List.mem_filter.mp h).1
  have na : a ∉ S.filter (fun b => decide (b ≠ a)) := fun h => by simpa using (List.mem_filter.mp h).2
  have less := Chg.less (S := S) (H := H) sub
  have gd : Good K (S.filter fun b => decide (b ≠ a)) H d (.ref a) := Cont.frz na f (Cont.chg less (fun h => h) hc)
  have env : EnvOk K H0 (S.filter fun b => decide (b ≠ a)) σ H (ρ.set i (.sh d)) := by
    refine ⟨by rw [List.length_set]; exact E.len, fun j d' h => ?_, fun j t d' h => ?_, fun j k s t b hjk h1 h2 m1 m2 q1 q2 => ?_, fun b hb => E.dom b (sub b hb), E.ent⟩
    · rcases set_get h with ⟨rfl, e⟩ | ⟨_, h⟩
      · cases e
        exact ⟨_, ha, gd⟩
      · obtain ⟨v, hv, g⟩ := E.sh j d' h
        exact ⟨v, hv, g.less sub⟩
    · have key : j ≠ i ∧ (ρ[j]? = some (.mu t d') ∨ ρ[j]? = some (.lk t d')) := by
        rcases h with h | h
        · rcases set_get h with ⟨_, e⟩ | ⟨n, h⟩
          · cases e
          · exact ⟨n, .inl h⟩
        · rcases set_get h with ⟨_, e⟩ | ⟨n, h⟩
          · cases e
          · exact ⟨n, .inr h⟩
      obtain ⟨b, hb, bS, bc, bf⟩ := E.mu j t d' key.2
      refine ⟨b, hb, List.mem_filter.mpr ⟨bS, decide_eq_true fun e => ?_⟩, Cont.chg less (fun h => h) bc, bf⟩
      subst e
      rcases key.2 with h | h
      · exact E.apart j i _ _ _ key.1 h hi rfl rfl hb ha
      · exact E.apart j i _ _ _ key.1 h hi rfl rfl hb ha
    · rcases set_get h1 with ⟨_, e⟩ | ⟨_, h1⟩
      · subst e; cases m1
      · rcases set_get h2 with ⟨_, e⟩ | ⟨_, h2⟩
        · subst e; cases m2
        · exact E.apart j k s t b hjk h1 h2 m1 m2 q1 q2
  refine ⟨_, ⟨fun _ _ h _ => h, fun b h => .inl (sub b h), fun b h h0 => List.mem_filter.mpr ⟨h, decide_eq_true fun e => h0 (by rw [e]; exact hf rfl)⟩, fun b ⟨j, t, d', h, hs⟩ => ?_, fun b ⟨j, s, h, hm, hs⟩ => ?_, fun j s h m => ⟨rfl, s, ?_, m⟩, fun _ h => h, fun j t d' h => ⟨?_, rfl⟩, env⟩, gd, sub, fun b h => ?_, na⟩
  · rcases set_get h with ⟨_, e⟩ | ⟨_, h⟩
    · cases e
    · exact .inl ⟨j, t, d', h, hs⟩
  · rcases set_get h with ⟨_, e⟩ | ⟨_, h⟩
    · subst e; cases hm
    · exact .inl ⟨j, s, h, hm, hs⟩
  · have hji : j ≠ i := fun e => by
      subst e
      rw [hi] at h
      cases h
      cases m
    rw [List.getElem?_set_ne (Ne.symm hji)]
    exact h
  · have hji : j ≠ i := fun e => by
      subst e
      rw [hi] at h
      cases h
    rw [List.getElem?_set_ne (Ne.symm hji)]
    exact h
  · by_cases e : b = a
    · exact .inl e
    · exact .inr (List.mem_filter.mpr ⟨h, decide_eq_true e⟩)
end
/-! ### the context -/
/-- what a check knows of a def: its names by slot, the names' kinds, which names may be stored -/
structure Cc where
  N : List Str
  names : List (Str × NameKind)
  sto : Str → Bool
  glob : List (Str × PyData)
  free : List Str
  funs : List (Str × Nat)
  excs : List Str
  top : Bool
  whs : List Str
/-- a def's promise: what cf says of it -/
def ArgsOk (K : PySem.W.Frag) (S : List Addr) (H : Hp) : Rho → List V → Prop
  | [], vs => vs = []
  | .sh d :: r, vs => ∃ v q, vs = v :: q ∧ Good K S H d v ∧ ArgsOk K S H r q
  | .mu false d :: r, vs => ∃ a q, vs = .ref a :: q ∧ (a ∈ S ∧ Cont K S H a d) ∧ ArgsOk K S H r q
  | _, _ => False
def OutsOk (K : PySem.W.Frag) (S : List Addr) (H : Hp) : Rho → Rho → List V → Prop
  | [], _, _ => True
  | .mu _ _ :: r, .mu _ d :: o, .ref a :: q => Cont K S H a d ∧ OutsOk K S H r o q
  | .sh _ :: r, _ :: o, _ :: q => OutsOk K S H r o q
  | _, _, _ => False
/-- the lent addresses -/
def ioAs : Rho → List V → List Addr
  | .mu _ _ :: r, .ref a :: q => a :: ioAs r q
  | _ :: r, _ :: q => ioAs r q
  | _, _ => []
def spV (K : PySem.W.Frag) (cf : CT) (f : Str) (n : Nat) : Sp := fun vs H Q E => vs.length = n ∧ ∃ S as, Dom S H ∧ ArgsOk K S H as vs ∧ (ioAs as vs).Nodup ∧ match cf f as with
  | .ok d fr outs => ∀ H' v, (∀ a o, H a = some o → a ∉ ioAs as vs → H' a = some o) → OutsOk K S H' as outs vs → Good K S H' d v → (fr = true → Frs K S H H' d v ∧ ∀ p, v = .ref p → OutsOk K (p :: S) H' as outs vs) → Q v H'
  | .ex c outs => ∀ H', (∀ a o, H a = some o → a ∉ ioAs as vs → H' a = some o) → OutsOk K S H' as outs vs → E (.ref (He.ga K c)) none H'
  | .st => False
/-- a class of exceptions of one's own -/
structure ExcF (K : PySem.W.Frag) (mg : Str → Option Value) (x : Str) : Prop where
  q : PySem.W.excIn K (He.ga K x) [.type "ValueError", .type "Exception", .type "BaseException", .type "object"] "ValueError.__new__" = true
  g : mg x = some (.ref (He.ga K x))
  k : PySem.W.keepIn K (.ref (He.ga K x)) = true
  s : PySem.W.subIn K (.ref (He.ga K x)) (.type "BaseException") = some true
  t : PySem.W.typeIn K (.ref (He.ga K x)) = some (.type "type")
structure GX (X : Cx) (c : Cc) (cf : CT) (W : WX) (lev : Nat) : Prop where
  N : X.N = c.N
  nd : X.N.Nodup
  names : X.env.scope.names = c.names
  kind : X.env.scope.kind = (.function)
  calm : X.calm = true
  room : Room lev X.A
  tk : Takes X W
  own : PassesOwn (model X.prog X.w) X.A X.env X.xe
  fn : ∀ x, c.sto x = true → Loc X.env.scope x ∧ (X.fn x = true ∨ X.env.scope.names.lookup x = some .local)
  free : ∀ x, x ∈ c.free → X.mg x = none
  glob : ∀ x d, (x, d) ∈ c.glob → ∃ v u, X.mg x = some u ∧ RelV v u ∧ (∀ S H, Good X.K S H d v) ∧ ∀ a, v = .ref a → ∃ o, X.K.lookup a = some o ∧ o.dict = none
  funs : ∀ f n, (f, n) ∈ c.funs → ∃ fa fd ps, ps.length = n ∧ X.mg f = some (.ref fa) ∧ PySem.W.keepIn X.K (.ref fa) = true ∧ Binds X.K fd ps [] ∧ FnOk X.prog X.w X.K X.mg X.base (L2.CX X.prog X.w) lev fa fd ps (spV X.K cf f n)
  exc : ∀ x, x ∈ c.excs → ExcF X.K X.mg x
  top : c.top = true → X.stack = X.env :: X.outer ∧ X.env.frame = some X.env.locals
  wh : ∀ f, f ∈ c.whs → WhK X.K X.mg ∧ ∃ fa fd x, X.mg f = some (.ref fa) ∧ PySem.W.keepIn X.K (.ref fa) = true ∧ Binds X.K fd [x] [] ∧ ∀ e n p, e ∈ exNames → exIx e = some n → Zc (.ref (He.ga X.K e)) none p.2 → (∃ vs, p.2.data = .fields vs) → FnP X.prog X.w X.K X.mg X.base (L2.CX X.prog X.w) lev fa fd x p n
/-- a text that means m -/
structure SV (X : Cx) (H0 : Hp) (W : WX) (e : Expr) (m : Sm) : Prop where
  v : PE X e (tV X.K H0 W m.v)
  t : PT X e (tT X.K H0 W m.t)
  o : PE X e (tO X.K H0 W m.o)
inductive SVs (X : Cx) (H0 : Hp) (W : WX) : List Expr → List Sm → Prop
  | nil : SVs X H0 W [] []
  | cons {e : Expr} {es : List Expr} {m : Sm} {ms : List Sm} : SV X H0 W e m → SVs X H0 W es ms → SVs X H0 W (e :: es) (m :: ms)
section
variable {X : Cx} {H0 : Hp} {W : WX} {e : Expr}
theorem sv_o {v : Rho → R (PyData × Bool)} (h : PE X e (tV X.K H0 W v)) : PE X e (tO X.K H0 W fun ρ => (v ρ).bind fun d ρ1 => .ok (.val d.1) ρ1) :=
  PE.weak h fun σ H Q ⟨S, ρ, E, q⟩ => ⟨S, ρ, E, q.bind.thn fun S1 H1 ρ1 d ev q v g _ => q.now ev.env v g⟩
theorem truth_b {K : PySem.W.Frag} {S : List Addr} {H : Hp} {d : PyData} {x : V} {b : Bool} (g : GoodB K S H d x) (h : truth d = some b) : TruV K x H b := by
  cases d with
  | none => rw [g.none]; cases h; rfl
  | bool c => rw [g.bool]; cases h; rfl
  | int i => rw [g.int]; cases h; rfl
  | str _ => cases h
  | list ds =>
    obtain ⟨a, vs, e, hr, gl⟩ := g.list
    rw [e]
    cases h
    refine .inl ⟨vs, hr.sq, ?_⟩
    cases ds with
    | nil =>
      simp only [GoodL] at gl
      rw [gl]
      rfl
    | cons d ds =>
      simp only [GoodL] at gl
      obtain ⟨_, _, e, _⟩ := gl
      rw [e]
      rfl
  | tuple ds =>
    obtain ⟨a, vs, e, hr, gl⟩ := g.tuple
    rw [e]
    cases h
    refine .inr (.inl ⟨vs, hr, ?_⟩)
    cases ds with
    | nil =>
      simp only [GoodL] at gl
      rw [gl]
      rfl
    | cons d ds =>
      simp only [GoodL] at gl
      obtain ⟨_, _, e, _⟩ := gl
      rw [e]
      rfl
  | dict _ => cases h
/-- a test by a value's truth -/
theorem sv_t {o : Rho → R Opd} (h : PE X e (tO X.K H0 W o)) (he : ∀ whole, isTrue e X.env whole = (do let v ← whole; standAt e.pos; holding [v] (truthy v))) : PT X e (tT X.K H0 W (tst o)) := by
  refine PT.weak (pt_truth h he) fun σ H Q ⟨S, ρ, E, q⟩ => ⟨S, ρ, E, q.bind.thn fun S1 H1 ρ1 a ev q w ok => ?_⟩
  obtain ⟨b, hb, q⟩ := q.opt
  rw [Option.bind_eq_some_iff] at hb
  obtain ⟨d, hd, hb⟩ := hb
  exact ⟨b, truth_b (ok.rd ev.env hd) hb, q.now ev.env⟩
theorem SV.mk' {v : Rho → R (PyData × Bool)} (h : PE X e (tV X.K H0 W v)) (he : ∀ whole, isTrue e X.env whole = (do let v ← whole; standAt e.pos; holding [v] (truthy v))) : SV X H0 W e (MP.mk v) :=
  ⟨h, sv_t (sv_o h) he, sv_o h⟩
/-! ### what is written, what is named -/
theorem sv_const {v : V} {d : PyData} (h : PE X e (tC v)) (g : ∀ S H, Good X.K S H d v) : PE X e (tV X.K H0 W fun ρ => .ok (d, false) ρ) :=
  PE.weak h fun σ H Q ⟨S, ρ, E, q⟩ => q.now E v (g S H) (fun z => nomatch z)
theorem sv_var {i : Nat} (h : PE X e (tVar i)) (he : ∀ whole, isTrue e X.env whole = (do let v ← whole; standAt e.pos; holding [v] (truthy v))) : SV X H0 W e ⟨MP.valV i, tst (opdV i), some i⟩ := by
  have ho : PE X e (tO X.K H0 W (opdV i)) := by
    refine PE.weak h fun σ H Q ⟨S, ρ, E, q⟩ => ?_
    unfold opdV at q
    cases hi : ρ[i]? with
    | none => rw [hi] at q; exact q.elim
    | some s =>
      rw [hi] at q
      cases s with
      | no => exact q.elim
      | sh d =>
        obtain ⟨v, hv, g⟩ := E.sh i d hi
        exact ⟨v, hv, q S H (Evo.refl E) v g⟩
      | mu t d =>
        obtain ⟨a, ha, _⟩ := E.mu i t d (.inl hi)
        exact ⟨_, ha, q S H (Evo.refl E) _ ha⟩
      | lk t d =>
        obtain ⟨a, ha, _⟩ := E.mu i t d (.inr hi)
        exact ⟨_, ha, q S H (Evo.refl E) _ ha⟩
  refine ⟨?_, sv_t ho he, ho⟩
  refine PE.weak h fun σ H Q ⟨S, ρ, E, q⟩ => ?_
  unfold MP.valV at q
  cases hi : ρ[i]? with
  | none =>
    simp only [hi] at q
    exact q.elim
  | some s =>
    simp only [hi] at q
    cases s with
    | no => exact q.elim
    | sh d =>
      obtain ⟨v, hv, g⟩ := E.sh i d hi
      exact ⟨v, hv, q S H (Evo.refl E) v g (fun z => nomatch z)⟩
    | lk t d => exact q.elim
    | mu t d =>
      cases t with
      | false => exact q.elim
      | true =>
        obtain ⟨a, ha, hS, hc, hf⟩ := E.mu i true d (.inl hi)
        -- what is owned is shared from here on
        simp only at q
        by_cases f : frzOk d = true
        · rw [if_pos f] at q
          obtain ⟨S', ev, g, _, _, _⟩ := E.frz hi ha f
          exact ⟨_, ha, q S' H ev _ g (fun z => nomatch z)⟩
        · rw [if_neg f] at q
          exact q.elim
end
end MP
end
section
set_option Elab.async false
set_option linter.all false
set_option autoImplicit false
set_option maxRecDepth 100000
set_option maxHeartbeats 4000001
namespace MP
open PySem.Spec PyProof.Rows L2 PySem

theorem R.assoc {α β γ : Type} (x : R α) (f : α → Rho → R β) (g : β → Rho → R γ) : (x.bind f).bind g = x.bind fun a ρ => (f a ρ).bind g := by
  cases x <;> rfl
theorem v_op1 (o : Op) (ma : Sm) : v_op o [ma] = fun ρ => (ma.o ρ).bind fun a ρ1 => optB ((rdOs ρ1 [a]).bind (prim o)) fun d => .ok (d, frOp o) ρ1 := by
  funext ρ
  simp only [v_op, evOs, R.assoc]
  rfl
theorem v_op2 (o : Op) (ma mb : Sm) : v_op o [ma, mb] = fun ρ => (ma.o ρ).bind fun a ρ1 => (mb.o ρ1).bind fun b ρ2 => optB ((rdOs ρ2 [a, b]).bind (prim o)) fun d => .ok (d, frOp o) ρ2 := by
  funext ρ
  simp only [v_op, evOs, R.assoc]
  rfl
theorem v_op3 (o : Op) (ma mb mc : Sm) : v_op o [ma, mb, mc] = fun ρ => (ma.o ρ).bind fun a ρ1 => (mb.o ρ1).bind fun b ρ2 => (mc.o ρ2).bind fun c ρ3 => optB ((rdOs ρ3 [a, b, c]).bind (prim o)) fun d => .ok (d, frOp o) ρ3 := by
  funext ρ
  simp only [v_op, evOs, R.assoc]
  rfl
theorem rd1 {ρ : Rho} {a : Opd} {o : Op} {d : PyData} (h : (rdOs ρ [a]).bind (prim o) = some d) : ∃ x, rdO ρ a = some x ∧ prim o [x] = some d := by
  rw [Option.bind_eq_some_iff] at h
  obtain ⟨ds, h1, h2⟩ := h
  simp only [rdOs] at h1
  cases hx : rdO ρ a with
  | none => rw [hx] at h1; cases h1
  | some x => rw [hx] at h1; cases h1; exact ⟨x, rfl, h2⟩
theorem rd2 {ρ : Rho} {a b : Opd} {o : Op} {d : PyData} (h : (rdOs ρ [a, b]).bind (prim o) = some d) : ∃ x y, rdO ρ a = some x ∧ rdO ρ b = some y ∧ prim o [x, y] = some d := by
  rw [Option.bind_eq_some_iff] at h
  obtain ⟨ds, h1, h2⟩ := h
  simp only [rdOs] at h1
  cases hx : rdO ρ a with
  | none => rw [hx] at h1; cases h1
  | some x =>
    cases hy : rdO ρ b with
    | none => rw [hx, hy] at h1; cases h1
    | some y => rw [hx, hy] at h1; cases h1; exact ⟨x, y, rfl, rfl, h2⟩
theorem rd3 {ρ : Rho} {a b c : Opd} {o : Op} {d : PyData} (h : (rdOs ρ [a, b, c]).bind (prim o) = some d) : ∃ x y z, rdO ρ a = some x ∧ rdO ρ b = some y ∧ rdO ρ c = some z ∧ prim o [x, y, z] = some d := by
  rw [Option.bind_eq_some_iff] at h
  obtain ⟨ds, h1, h2⟩ := h
  simp only [rdOs] at h1
  cases hx : rdO ρ a with
  | none => rw [hx] at h1; cases h1
  | some x =>
    cases hy : rdO ρ b with
    | none => rw [hx, hy] at h1; cases h1
    | some y =>
      cases hz : rdO ρ c with
      | none => rw [hx, hy, hz] at h1; cases h1
      | some z => rw [hx, hy, hz] at h1; cases h1; exact ⟨x, y, z, rfl, rfl, rfl, h2⟩
section
variable {K : PySem.W.Frag} {H0 : Hp} {W : WX} {σ : L2.St} {S S' : List Addr} {H H' H2 : Hp} {ρ ρ' : Rho}
theorem Evo.none {σ' : L2.St} (v : Evo K H0 σ S H ρ σ' S' H' ρ') {p : Addr} (h : H' p = none) : H p = none := by
  cases e : H p with
  | none => rfl
  | some o => exact absurd h (v.there p (by rw [e]; exact fun z => nomatch z))
theorem Frs.back {σ' : L2.St} (v : Evo K H0 σ S H ρ σ' S' H' ρ') {T : List Addr} {d : PyData} {x : V} (f : Frs K T H' H2 d x) : Frs K T H H2 d x := by
  obtain ⟨p, e, h, n, c⟩ := f
  exact ⟨p, e, v.none h, n, c⟩
theorem FrE.back {σ' σ2 : L2.St} {ρ2 : Rho} (v : Evo K H0 σ S H ρ σ' S' H' ρ') {T : List Addr} {d : PyData} {x : V} (f : FrE K H0 T H' H2 σ2 ρ2 d x) : FrE K H0 T H H2 σ2 ρ2 d x := ⟨f.1.back v, f.2⟩
/-- the wish of a value's reading -/
abbrev wV (K : PySem.W.Frag) (H0 : Hp) (σ : L2.St) (H : Hp) (Q : VK) : List Addr → Hp → Rho → PyData × Bool → Prop := fun S' H' ρ' d => ∀ v, Good K S' H' d.1 v → (d.2 = true → FrE K H0 S' H H' σ ρ' d.1 v) → Q v H'
/-- the end of an operation: the datum is made -/
theorem Aft.post {d : PyData} {fr : Bool} {Q : VK} {S1 : List Addr} {H1 : Hp} {ρ1 : Rho} (ev : Evo K H0 σ S H ρ σ S1 H1 ρ1) (q : Aft K H0 W σ S1 H1 ρ1 (.ok (d, fr) ρ1) (wV K H0 σ H Q)) : PostV K S1 H1 fr d Q :=
  fun v H2 sm g f => q S1 H2 (Evo.same ev.env sm) v g fun z => ⟨(f z).back ev, fun p e => by
    obtain ⟨p', e', h, n, c⟩ := f z
    rw [e] at e'
    cases e'
    refine ev.env.more sm h ?_
    obtain ⟨o, ho, _⟩ := c.mut
    rw [ho]
    exact fun z => nomatch z⟩
theorem op1_weak {o : Op} {ma : Sm} {Q : VK} {r : V → Hp → VK → Prop} (hr : ∀ x H Q, rV1 K o x H Q → r x H Q) (h : tV K H0 W (v_op o [ma]) σ H Q) : tUn r (tO K H0 W ma.o) σ H Q := by
  rw [v_op1] at h
  obtain ⟨S, ρ, E, h⟩ := h
  refine ⟨S, ρ, E, h.bind.thn fun S1 H1 ρ1 a ev q x ok => hr x H1 Q ?_⟩
  obtain ⟨d, hd, q⟩ := q.opt
  obtain ⟨dx, hx, hp⟩ := rd1 hd
  exact ⟨S1, dx, d, ev.env.dom, ok.rd ev.env hx, hp, q.post ev⟩
theorem op2_weak {o : Op} {ma mb : Sm} {Q : VK} {r : R2} (hr : ∀ x y H Q, rV2 K o x y H Q → r x y H Q) (h : tV K H0 W (v_op o [ma, mb]) σ H Q) : tOp r (tO K H0 W ma.o) (tO K H0 W mb.o) σ H Q := by
  rw [v_op2] at h
  obtain ⟨S, ρ, E, h⟩ := h
  refine ⟨S, ρ, E, h.bind.thn fun S1 H1 ρ1 a ev q x ok => ⟨S1, ρ1, ev.env, q.bind.thn fun S2 H2 ρ2 b ev2 q y ok2 => hr x y H2 Q ?_⟩⟩
  obtain ⟨d, hd, q⟩ := q.opt
  obtain ⟨dx, dy, hx, hy, hp⟩ := rd2 hd
  exact ⟨S2, dx, dy, d, ev2.env.dom, (ok.evo ev.env ev2).rd ev2.env hx, ok2.rd ev2.env hy, hp, q.post (ev.trans ev2)⟩
/-- arguments, as operands -/
theorem evOs_cons (m : Sm) (ms : List Sm) : evOs (m :: ms) = fun ρ => (m.o ρ).bind fun o ρ1 => (evOs ms ρ1).bind fun os ρ2 => .ok (o :: os) ρ2 := rfl
end
section
variable {X : Cx} {H0 : Hp} {W : WX} {a b c e : Expr} {es : List Expr} {ma mb mc : Sm} {ms : List Sm} {pos p p2 : Pos}
/-- expressions that may stand among arguments -/
def plainE : Expr → Bool
  | .Starred _ _ => false
  | .Set _ _ _ => false
  | .Slice _ _ _ _ => false
  | _ => true
theorem star_plain {env : Env} (h : plainE e = true) : starEach (e :: es) env = (false, eval e env) :: starEach es env := by
  cases e <;> first | rfl | cases h
theorem stars_plain {env : Env} : ∀ {es : List Expr}, es.all plainE = true → (backTo pos (starEach es env)).any (·.1) = false
  | [], _ => rfl
  | e :: es, h => by
    rw [(List.all_cons), Bool.and_eq_true] at h
    have ih := stars_plain (env := env) h.2
    rw [star_plain h.1]
    show (false || (backTo pos (starEach es env)).any (·.1)) = false
    rw [ih]
    rfl
theorem mark_plain {op : CmpOp} (h : plainE e = true) : behindInMarks op e = false := by
  cases e <;> first | rfl | cases h
theorem sub_plain (h : plainE e = true) (o i : Value) : subscripted e false o i = operate [o, i] (getItem o i) := by
  cases e <;> first | rfl | cases h
theorem fold_plain {env : Env} (h : plainE e = true) (x : Value) : foldedSetIterable e env x = pure x := by
  cases e <;> first | rfl | cases h
theorem args_o (h : SVs X H0 W es ms) (hp : es.all plainE = true) : PA X es (tOs X.K H0 W (evOs ms)) := by
  induction h with
  | nil => exact PA.weak pa_nil fun σ H Q ⟨S, ρ, E, q⟩ => q.now E [] rfl
  | cons h1 h2 ih =>
    rw [List.all_cons, Bool.and_eq_true] at hp
    refine PA.weak (pa_cons h1.o (ih hp.2) (star_plain hp.1)) fun σ H Q ⟨S, ρ, E, q⟩ => ?_
    rw [evOs_cons] at q
    exact ⟨S, ρ, E, q.bind.thn fun S1 H1 ρ1 o ev q x ok => ⟨S1, ρ1, ev.env, q.bind.thn fun S2 H2 ρ2 os ev2 q xs oks => q.now ev2.env (x :: xs) ⟨x, xs, rfl, ok.evo ev.env ev2, oks⟩⟩⟩
/-- a binary operation -/
theorem sv_bin {o : Op} {op : Operator} (ho : OpR X (binaryOp op) (rV2 X.K o)) (ha : SV X H0 W a ma) (hb : SV X H0 W b mb) : SV X H0 W (.BinOp a op b pos) (MP.mk (v_op o [ma, mb])) :=
  SV.mk' (PE.weak (pe_op ho ha.o hb.o) fun σ H Q h => op2_weak (fun _ _ _ _ q => q) h) fun _ => rfl
theorem sv_neg (ha : SV X H0 W a ma) : SV X H0 W (.UnaryOp .USub a pos) (MP.mk (v_op .neg [ma])) :=
  SV.mk' (PE.weak (pe_un unv_neg ha.o) fun σ H Q h => op1_weak (fun _ _ _ q => q) h) fun _ => rfl
/-- a test of a value that is a bool -/
theorem t_of_tV {v : Rho → R (PyData × Bool)} {σ : L2.St} {H : Hp} {Q : Bool → Hp → Prop} (hb : ∀ ρ d ρ', v ρ = .ok d ρ' → ∃ k, d.1 = .bool k) (h : tT X.K H0 W (MP.mk v).t σ H Q) :
    tV X.K H0 W v σ H fun x H' => ∃ k, x = .bl k ∧ Q k H' := by
  obtain ⟨S, ρ, E, h⟩ := h
  refine ⟨S, ρ, E, ?_⟩
  simp only [MP.mk, tst, R.assoc] at h
  have h' := h.bind
  cases hv : v ρ with
  | st => rw [hv] at h'; exact h'
  | ex c ρ' => rw [hv] at h'; exact h'
  | ok d ρ' =>
    rw [hv] at h'
    obtain ⟨k, hk⟩ := hb ρ d ρ' hv
    intro S' H' ev x g _
    have q := h' S' H' ev
    simp only [R.bind, rdO, hk] at q
    obtain ⟨b, hb, q⟩ := q.opt
    cases hb
    rw [hk] at g
    simp only [Good] at g
    exact ⟨k, g, q.now ev.env⟩
theorem bool_op2 {o : Op} (ho : ∀ x y d, prim o [x, y] = some d → ∃ k, d = .bool k) (ma mb : Sm) (ρ : Rho) (d : PyData × Bool) (ρ' : Rho) (h : v_op o [ma, mb] ρ = .ok d ρ') : ∃ k, d.1 = .bool k := by
  rw [v_op2] at h
  simp only at h
  cases ha : ma.o ρ with
  | st => rw [ha] at h; cases h
  | ex c ρ' => rw [ha] at h; cases h
  | ok oa ρ1 =>
    rw [ha] at h
    simp only [R.bind] at h
    cases hb : mb.o ρ1 with
    | st => rw [hb] at h; cases h
    | ex c ρ' => rw [hb] at h; cases h
    | ok ob ρ2 =>
      rw [hb] at h
      simp only [R.bind] at h
      cases hd : (rdOs ρ2 [oa, ob]).bind (prim o) with
      | none => rw [(hd)] at h; cases h
      | some x =>
        rw [hd] at h
        cases h
        obtain ⟨_, _, _, _, hp⟩ := rd2 hd
        exact ho _ _ _ hp
/-- a comparison -/
theorem sv_cmp {o : Op} {op : CmpOp} (ho : OpR X (compareOp op) (rV2 X.K o)) (hbl : ∀ x y d, prim o [x, y] = some d → ∃ k, d = .bool k) (hm : plainE b = true) (ha : SV X H0 W a ma) (hb : SV X H0 W b mb) :
    SV X H0 W (.Compare a [op] [b] pos) (MP.mk (v_op o [ma, mb])) := by
  have hv : PE X (.Compare a [op] [b] pos) (tV X.K H0 W (v_op o [ma, mb])) := PE.weak (pe_cmpR ho ha.o hb.o (mark_plain hm)) fun σ H Q h => op2_weak (fun _ _ _ _ q => q) h
  exact ⟨hv, PT.weak (pt_cmpR ho ha.o hb.o (mark_plain hm)) fun σ H Q h => op2_weak (fun _ _ _ _ q => q) (t_of_tV (bool_op2 hbl ma mb) h), sv_o hv⟩
/-- a subscript -/
theorem sv_idx (hu : X.A.units + 1 < cLine) (hp : plainE b = true) (ha : SV X H0 W a ma) (hb : SV X H0 W b mb) : SV X H0 W (.Subscript a b pos) (MP.mk (v_op .idx [ma, mb])) :=
  SV.mk' (PE.weak (pe_ix (ixv hu) ha.o hb.o (sub_plain hp)) fun σ H Q h => op2_weak (fun _ _ _ _ q => q) h) fun _ => rfl
/-- a built-in function of one argument, of two -/
theorem sv_b1 {o : Op} {x : Str} {id : String} (ho : CallR X (.builtin id) (rC1 X.K o)) (hg : Gl X x) (hm : X.mg x = none) (hv : bootBuiltins x = some (.builtin id)) (hn : x ≠ "__name__") (hd : (x == ("__debug__" : Str)) = false) (hp : plainE a = true) (ha : SV X H0 W a ma) :
    SV X H0 W (.Call (.Name x p) [a] [] pos) (MP.mk (v_op o [ma])) :=
  SV.mk' (PE.weak (pe_callB ho hg hm hv (pa_cons ha.o pa_nil (star_plain hp)) (hn := hn) (hdb := hd) (he := star_plain hp)) fun σ H Q h => op1_weak (r := fun x H Q => rC1 X.K o [x] H Q) (fun x _ _ q => ⟨x, rfl, q⟩) h) fun _ => rfl
theorem sv_ty1 {o : Op} {x : Str} {T : String} {r : List V → Hp → VK → Prop} (ho : CallR X (.type T) r) (hr : ∀ x H Q, rV1 X.K o x H Q → r [x] H Q) (hg : Gl X x) (hm : X.mg x = none) (hv : bootBuiltins x = some (.type T)) (hn : x ≠ "__name__") (hd : (x == ("__debug__" : Str)) = false) (hp : plainE a = true) (ha : SV X H0 W a ma) :
    SV X H0 W (.Call (.Name x p) [a] [] pos) (MP.mk (v_op o [ma])) :=
  SV.mk' (PE.weak (pe_callTy ho hg hm hv (pa_cons ha.o pa_nil (star_plain hp)) (hn := hn) (hdb := hd) (he := star_plain hp)) fun σ H Q h => op1_weak (r := fun x H Q => r [x] H Q) hr h) fun _ => rfl
theorem sv_b2 {o : Op} {x : Str} {id : String} (ho : CallR X (.builtin id) (rC2 X.K o)) (hg : Gl X x) (hm : X.mg x = none) (hv : bootBuiltins x = some (.builtin id)) (hn : x ≠ "__name__") (hd : (x == ("__debug__" : Str)) = false) (hp : plainE a = true) (hp2 : plainE b = true) (ha : SV X H0 W a ma) (hb : SV X H0 W b mb) :
    SV X H0 W (.Call (.Name x p) [a, b] [] pos) (MP.mk (v_op o [ma, mb])) :=
  SV.mk' (PE.weak (pe_callB ho hg hm hv (pa_cons ha.o (pa_cons hb.o pa_nil (star_plain hp2)) (star_plain hp)) (hn := hn) (hdb := hd) (he := star_plain hp) (hpl := stars_plain (by rw [List.all_cons, hp2]; rfl))) fun σ H Q h => op2_weak (r := fun x y H Q => rC2 X.K o [x, y] H Q) (fun x y _ _ q => ⟨x, y, rfl, q⟩) h) fun _ => rfl
/-- isinstance(x, T) -/
theorem sv_isi {t : String} {y : Str} (ht : tyOkT t = true) (hg : Gl X "isinstance") (hm : X.mg "isinstance" = none) (hgy : Gl X y) (hmy : X.mg y = none) (hvy : bootBuiltins y = some (.type t)) (hn : y ≠ "__name__") (hd : (y == ("__debug__" : Str)) = false) (hp : plainE a = true) (ha : SV X H0 W a ma) :
    SV X H0 W (.Call (.Name "isinstance" p) [a, .Name y p2] [] pos) (MP.mk (v_op (.isi t) [ma])) :=
  SV.mk' (PE.weak (pe_callB (cv_isi ht) hg hm (by decide +kernel) (pa_cons ha.o (pa_cons (pe_bltn (v := V.ty t) hgy hmy hvy rfl hn hd) pa_nil) (star_plain hp)) (he := star_plain hp) (hpl := rfl)) fun σ H Q h => op1_weak (r := fun x H Q => ∃ z, [x, V.ty t] = [z, .ty t] ∧ rV1 X.K (.isi t) z H Q) (fun x _ _ q => ⟨x, rfl, q⟩) h) fun _ => rfl
/-- is, is not -/
theorem sv_isN {n : Bool} {op : CmpOp} {j : Nat} (hop : op = if n = true then .IsNot else .Is) (ha : SV X H0 W a ma) : SV X H0 W (.Compare a [op] [.Constant .none j p] pos) (MP.mk (v_op (.isC n .none) [ma])) := by
  subst hop
  have hr : ∀ σ H Q, tV X.K H0 W (v_op (.isC n .none) [ma]) σ H Q → tOp (fun x y H Q => y = .non ∧ rV1 X.K (.isC n .none) x H Q) (tO X.K H0 W ma.o) (tC .non) σ H Q := fun σ H Q h => op1_weak (r := fun x H Q => V.non = .non ∧ rV1 X.K (.isC n .none) x H Q) (fun x _ _ q => ⟨rfl, q⟩) h
  have hv : PE X (.Compare a [if n = true then .IsNot else .Is] [.Constant .none j p] pos) (tV X.K H0 W (v_op (.isC n .none) [ma])) := PE.weak (pe_cmpR (opv_isN n) ha.o pe_non rfl) hr
  refine ⟨hv, PT.weak (pt_cmpR (opv_isN n) ha.o pe_non rfl) fun σ H Q h => hr σ H _ (t_of_tV (fun ρ d ρ' hh => ?_) h), sv_o hv⟩
  rw [v_op1] at hh
  simp only at hh
  cases hao : ma.o ρ with
  | st => rw [hao] at hh; cases hh
  | ex c ρ' => rw [hao] at hh; cases hh
  | ok oa ρ1 =>
    rw [hao] at hh
    simp only [R.bind] at hh
    cases hd : (rdOs ρ1 [oa]).bind (prim (.isC n .none)) with
    | none => rw [hd] at hh; cases hh
    | some x =>
      rw [hd] at hh
      cases hh
      obtain ⟨dx, _, hp⟩ := rd1 hd
      have hp' : (sConst dx .none).map (fun b => PyData.bool (n != b)) = some x := hp
      rw [Option.map_eq_some_iff] at hp'
      obtain ⟨b, _, rfl⟩ := hp'
      exact ⟨_, rfl⟩
theorem sv_isB {n k : Bool} {op : CmpOp} {j : Nat} (hop : op = if n = true then .IsNot else .Is) (ha : SV X H0 W a ma) : SV X H0 W (.Compare a [op] [.Constant (.bool k) j p] pos) (MP.mk (v_op (.isC n (.bool k)) [ma])) := by
  subst hop
  have hr : ∀ σ H Q, tV X.K H0 W (v_op (.isC n (.bool k)) [ma]) σ H Q → tOp (fun x y H Q => y = .bl k ∧ rV1 X.K (.isC n (.bool k)) x H Q) (tO X.K H0 W ma.o) (tC (.bl k)) σ H Q := fun σ H Q h => op1_weak (r := fun x H Q => V.bl k = .bl k ∧ rV1 X.K (.isC n (.bool k)) x H Q) (fun x _ _ q => ⟨rfl, q⟩) h
  have hv : PE X (.Compare a [if n = true then .IsNot else .Is] [.Constant (.bool k) j p] pos) (tV X.K H0 W (v_op (.isC n (.bool k)) [ma])) := PE.weak (pe_cmpR (opv_isB n k) ha.o pe_bl rfl) hr
  refine ⟨hv, PT.weak (pt_cmpR (opv_isB n k) ha.o pe_bl rfl) fun σ H Q h => hr σ H _ (t_of_tV (fun ρ d ρ' hh => ?_) h), sv_o hv⟩
  rw [v_op1] at hh
  simp only at hh
  cases hao : ma.o ρ with
  | st => rw [hao] at hh; cases hh
  | ex c ρ' => rw [hao] at hh; cases hh
  | ok oa ρ1 =>
    rw [hao] at hh
    simp only [R.bind] at hh
    cases hd : (rdOs ρ1 [oa]).bind (prim (.isC n (.bool k))) with
    | none => rw [hd] at hh; cases hh
    | some x =>
      rw [hd] at hh
      cases hh
      obtain ⟨dx, _, hp⟩ := rd1 hd
      have hp' : (sConst dx (.bool k)).map (fun b => PyData.bool (n != b)) = some x := hp
      rw [Option.map_eq_some_iff] at hp'
      obtain ⟨b, _, rfl⟩ := hp'
      exact ⟨_, rfl⟩
end
end MP
end
section
set_option Elab.async false
set_option linter.all false
set_option autoImplicit false
set_option maxRecDepth 100000
set_option maxHeartbeats 4000001
namespace MP
open PySem.Spec PyProof.Rows L2 PySem

section
variable {X : Cx} {H0 : Hp} {W : WX} {a b c e : Expr} {es : List Expr} {ma mb mc : Sm} {ms : List Sm} {pos p p2 : Pos}
/-! ### comparisons -/
def cmpOk : Op → CmpOp → Bool
  | .eq, .Eq | .ne, .NotEq | .lt, .Lt | .le, .LtE | .gt, .Gt | .ge, .GtE | .isin false, .In | .isin true, .NotIn => true
  | _, _ => false
theorem cmp_op {o : Op} {op : CmpOp} (hu : X.A.units + 64 < cLine) (h : cmpOk o op = true) : OpR X (compareOp op) (rV2 X.K o) := by
  unfold cmpOk at h
  split at h
  · exact opv_eq hu
  · exact opv_ne hu
  · exact opv_lt
  · exact opv_le
  · exact opv_gt
  · exact opv_ge
  · exact opv_in false (by omega)
  · exact opv_in true (by omega)
  · cases h
theorem ite_bool {c : Bool} {x d : PyData} {k : Bool} (e : x = .bool k) (h : (if c = true then some x else none) = some d) : ∃ k, d = .bool k := by
  split at h
  · cases h; exact ⟨k, e⟩
  · cases h
theorem cmp_bool {o : Op} {op : CmpOp} (h : cmpOk o op = true) (x y d : PyData) (hp : prim o [x, y] = some d) : ∃ k, d = .bool k := by
  unfold cmpOk at h
  split at h
  · exact ite_bool rfl hp
  · exact ite_bool rfl hp
  all_goals first
    | (have hp' : primCmp _ _ [x, y] = some d := hp
       unfold primCmp at hp'
       split at hp'
       · cases hp'; exact ⟨_, rfl⟩
       · cases hp'; exact ⟨_, rfl⟩
       · cases hp')
    | (have hp' : primIn _ [x, y] = some d := hp
       unfold primIn at hp'
       split at hp'
       · exact ite_bool rfl hp'
       · exact ite_bool rfl hp'
       · exact ite_bool rfl hp'
       · split at hp'
         · cases hp'; exact ⟨_, rfl⟩
         · cases hp'
       · cases hp')
    | cases h
theorem sv_cmpo {o : Op} {op : CmpOp} (hu : X.A.units + 64 < cLine) (h : cmpOk o op = true) (hm : plainE b = true) (ha : SV X H0 W a ma) (hb : SV X H0 W b mb) : SV X H0 W (.Compare a [op] [b] pos) (MP.mk (v_op o [ma, mb])) :=
  sv_cmp (cmp_op hu h) (cmp_bool h) hm ha hb
theorem ch_weak {o1 o2 : Op} {op1 : CmpOp} (h1 : cmpOk o1 op1 = true) {σ : L2.St} {H : Hp} {Q : VK} (h : tV X.K H0 W (v_ch o1 o2 ma mb mc) σ H Q) : tChain (rV2 X.K o1) (rV2 X.K o2) (tO X.K H0 W ma.o) (tO X.K H0 W mb.o) (tO X.K H0 W mc.o) σ H Q := by
  obtain ⟨S, ρ, E, h⟩ := h
  refine ⟨S, ρ, E, h.bind.thn fun S1 H1 ρ1 oa ev q x ok => ⟨S1, ρ1, ev.env, q.bind.thn fun S2 H2 ρ2 ob ev2 q y ok2 => ?_⟩⟩
  obtain ⟨d, hd, q⟩ := q.opt
  obtain ⟨dx, dy, hx, hy, hp⟩ := rd2 hd
  obtain ⟨k, rfl⟩ := cmp_bool h1 _ _ _ hp
  refine ⟨S2, dx, dy, _, ev2.env.dom, (ok.evo ev.env ev2).rd ev2.env hx, ok2.rd ev2.env hy, hp, fun z H3 sm g _ => ?_⟩
  simp only [Good] at g
  refine ⟨k, g, ?_⟩
  have e3 := Evo.same ev2.env sm
  cases k with
  | false =>
    refine iteF ?_
    exact q S2 H3 e3 _ (by simp only [Good]) (fun z => nomatch z)
  | true =>
    refine iteT ?_
    have q' : Aft X.K H0 W σ S2 H2 ρ2 ((mc.o ρ2).bind fun oc ρ3 => optB ((rdOs ρ3 [ob, oc]).bind (prim o2)) fun d => .ok (d, false) ρ3) (wV X.K H0 σ H Q) := q
    have q2 := q'.bind
    refine ⟨S2, ρ2, e3.env, ?_⟩
    cases hc : mc.o ρ2 with
    | st => rw [hc] at q2; exact q2.elim
    | ex c ρ' => rw [hc] at q2; exact fun S4 H4 e4 => q2 S4 H4 (e3.trans e4)
    | ok oc ρ3 =>
      rw [hc] at q2
      intro S4 H4 e4 w ok3
      have q3 := q2 S4 H4 (e3.trans e4)
      obtain ⟨d2, hd2, q3⟩ := q3.opt
      obtain ⟨dy2, dz, hy2, hz, hp2⟩ := rd2 hd2
      have okb := (ok2.evo ev2.env e3).evo e3.env e4
      exact ⟨S4, dy2, dz, d2, e4.env.dom, okb.rd e4.env hy2, ok3.rd e4.env hz, hp2, fun v H5 sm5 g5 _ => q3 S4 H5 (Evo.same e4.env sm5) v g5 (fun z => nomatch z)⟩
theorem ch_bool {o1 o2 : Op} {op2 : CmpOp} (h2 : cmpOk o2 op2 = true) (ρ : Rho) (d : PyData × Bool) (ρ' : Rho) (h : v_ch o1 o2 ma mb mc ρ = .ok d ρ') : ∃ k, d.1 = .bool k := by
  unfold v_ch at h
  cases ha : ma.o ρ with
  | st => rw [ha] at h; cases h
  | ex c ρ' => rw [ha] at h; cases h
  | ok oa ρ1 =>
    rw [ha] at h
    simp only [R.bind] at h
    cases hb : mb.o ρ1 with
    | st => rw [hb] at h; cases h
    | ex c ρ' => rw [hb] at h; cases h
    | ok ob ρ2 =>
      rw [hb] at h
      simp only [R.bind] at h
      cases hd : (rdOs ρ2 [oa, ob]).bind (prim o1) with
      | none => rw [(hd)] at h; cases h
      | some x =>
        rw [hd] at h
        simp only [optB] at h
        split at h
        · cases hc : mc.o ρ2 with
          | st => rw [hc] at h; cases h
          | ex c ρ' => rw [hc] at h; cases h
          | ok oc ρ3 =>
            rw [hc] at h
            simp only [R.bind] at h
            cases hd2 : (rdOs ρ3 [ob, oc]).bind (prim o2) with
            | none => rw [hd2] at h; cases h
            | some x2 =>
              rw [hd2] at h
              cases h
              obtain ⟨_, _, _, _, hp⟩ := rd2 hd2
              exact cmp_bool h2 _ _ _ hp
        · cases h
          exact ⟨_, rfl⟩
        · cases h
theorem sv_ch {o1 o2 : Op} {op1 op2 : CmpOp} (hu : X.A.units + 64 < cLine) (h1 : cmpOk o1 op1 = true) (h2 : cmpOk o2 op2 = true) (hm : plainE c = true) (ha : SV X H0 W a ma) (hb : SV X H0 W b mb) (hc : SV X H0 W c mc) :
    SV X H0 W (.Compare a [op1, op2] [b, c] pos) (MP.mk (v_ch o1 o2 ma mb mc)) := by
  have lm : lastMarks [op1, op2] [b, c] = false := mark_plain (op := op2) hm
  have hv : PE X (.Compare a [op1, op2] [b, c] pos) (tV X.K H0 W (v_ch o1 o2 ma mb mc)) := PE.weak (pe_chain (cmp_op hu h1) (cmp_op hu h2) ha.o hb.o hc.o lm) fun σ H Q h => ch_weak h1 h
  exact ⟨hv, PT.weak (pt_chain (cmp_op hu h1) (cmp_op hu h2) ha.o hb.o hc.o lm) fun σ H Q h => ch_weak h1 (t_of_tV (ch_bool h2) h), sv_o hv⟩
/-! ### slices -/
/-- a part of a slice -/
inductive Part (X : Cx) (H0 : Hp) (W : WX) : Option Expr → List Sm → Prop
  | none : Part X H0 W none []
  | some {e : Expr} {m : Sm} : SV X H0 W e m → Part X H0 W (some e) [m]
def tP (K : PySem.W.Frag) (H0 : Hp) (W : WX) (f : Rho → R (Option Int)) : TO := fun σ H Q => tR K H0 W f σ H fun _ H' _ i => Q i H'
theorem po_part {lo : Option Expr} {ml : List Sm} (h : Part X H0 W lo ml) : PO X lo (tP X.K H0 W (evI ml)) := by
  cases h with
  | none => exact ⟨fun pins s σ H Q I ⟨S, ρ, E, q⟩ => po_none.run pins s σ H Q I (q.now E)⟩
  | some h =>
    rename_i e m
    refine ⟨fun pins s σ H Q I ⟨S, ρ, E, q⟩ => (po_some h.v).run pins s σ H Q I ?_⟩
    have q' : Aft X.K H0 W σ S H ρ ((m.v ρ).bind fun d ρ1 => match d.1 with
      | .int i => .ok (some i) ρ1
      | _ => .st) (fun _ H' _ i => Q i H') := q
    refine ⟨S, ρ, E, q'.bind.thn fun S1 H1 ρ1 d ev q v g _ => ?_⟩
    obtain ⟨d, fr⟩ := d
    simp only at q g
    cases d with
    | int i =>
      simp only [Good] at g
      exact ⟨i, g, q.now ev.env⟩
    | _ => exact q.elim
/-- x[lo:hi] -/
theorem sv_sl {lo hi : Option Expr} {ml mh : List Sm} (ha : SV X H0 W a ma) (hl : Part X H0 W lo ml) (hh : Part X H0 W hi mh) : SV X H0 W (.Subscript a (.Slice lo hi none p2) pos) (MP.mk (v_sl ma ml mh)) := by
  refine SV.mk' (PE.weak (pe_slice slv ha.o (po_part hl) (po_part hh)) fun σ H Q ⟨S, ρ, E, h⟩ => ?_) fun _ => rfl
  refine ⟨S, ρ, E, h.bind.thn fun S1 H1 ρ1 oa ev q x ok => ⟨S1, ρ1, ev.env, q.bind.thn fun S2 H2 ρ2 l ev2 q => ⟨S2, ρ2, ev2.env, q.bind.thn fun S3 H3 ρ3 h ev3 q => ?_⟩⟩⟩
  obtain ⟨d, hd, q⟩ := q.opt
  rw [Option.bind_eq_some_iff] at hd
  obtain ⟨dx, hx, hd⟩ := hd
  exact ⟨S3, dx, d, ev3.env.dom, ((ok.evo ev.env ev2).evo ev2.env ev3).rd ev3.env hx, hd, q.post (ev.trans (ev2.trans ev3))⟩
/-! ### displays -/
theorem evs_cons (m : Sm) (ms : List Sm) : evs (m :: ms) = fun ρ => (m.v ρ).bind fun d ρ1 => (evs ms ρ1).bind fun ds ρ2 => .ok (d.1 :: ds) ρ2 := rfl
def tVs (K : PySem.W.Frag) (H0 : Hp) (W : WX) (f : Rho → R (List PyData)) : TA := fun σ H Q => tR K H0 W f σ H fun S' H' _ ds => ∀ vs, GoodL K S' H' ds vs → Q vs H'
theorem args_v (h : SVs X H0 W es ms) (hp : es.all plainE = true) : PA X es (tVs X.K H0 W (evs ms)) := by
  induction h with
  | nil => exact PA.weak pa_nil fun σ H Q ⟨S, ρ, E, q⟩ => q.now E [] .nil
  | cons h1 h2 ih =>
    rw [List.all_cons, Bool.and_eq_true] at hp
    refine PA.weak (pa_cons h1.v (ih hp.2) (star_plain hp.1)) fun σ H Q ⟨S, ρ, E, q⟩ => ?_
    rw [evs_cons] at q
    exact ⟨S, ρ, E, q.bind.thn fun S1 H1 ρ1 o ev q x ok _ => ⟨S1, ρ1, ev.env, q.bind.thn fun S2 H2 ρ2 os ev2 q xs oks => q.now ev2.env (x :: xs) (.cons (ev2.good ev.env ok) oks)⟩⟩
theorem sv_tu {k : Nat} (h : SVs X H0 W es ms) (hp : es.all plainE = true) : SV X H0 W (.Tuple es k pos) (MP.mk (v_tu ms)) := by
  refine SV.mk' (PE.weak (pe_tup (args_v h hp)) fun σ H Q ⟨S, ρ, E, h⟩ => ⟨S, ρ, E, h.bind.thn fun S1 H1 ρ1 ds ev q vs g => ?_⟩) fun _ => rfl
  by_cases hl : ds.length ≤ big
  · rw [if_pos hl] at q
    exact ⟨by rw [g.length, ← big_eq]; exact hl, fun p hp => PostV.newT (q.post ev) g p hp⟩
  · rw [if_neg hl] at q
    exact q.elim
theorem sv_li (h : SVs X H0 W es ms) (hp : es.all plainE = true) : SV X H0 W (.List es pos) (MP.mk (v_li ms)) := by
  refine SV.mk' (PE.weak (pe_lst (args_v h hp)) fun σ H Q ⟨S, ρ, E, h⟩ => ⟨S, ρ, E, h.bind.thn fun S1 H1 ρ1 ds ev q vs g => ?_⟩) fun _ => rfl
  by_cases hl : ds.length ≤ big
  · rw [if_pos hl] at q
    exact ⟨by rw [g.length, ← big_eq]; exact hl, fun p hp => PostV.newL (q.post ev) ev.env.dom g p hp⟩
  · rw [if_neg hl] at q
    exact q.elim
/-! ### and, or, not, if -/
theorem sv_an {rest : List Expr} (ha : SV X H0 W a ma) (hb : PE X (.BoolOp .And (b :: rest) pos) (tV X.K H0 W mb.v)) (hbt : PW X (.BoolOp .And (b :: rest) pos) (tT X.K H0 W mb.t)) :
    PE X (.BoolOp .And (a :: b :: rest) pos) (tV X.K H0 W (v_an ma mb)) ∧ PW X (.BoolOp .And (a :: b :: rest) pos) (tT X.K H0 W (t_an ma mb)) := by
  refine ⟨PE.weak (pe_and ha.v hb) fun σ H Q ⟨S, ρ, E, h⟩ => ⟨S, ρ, E, h.bind.thn fun S1 H1 ρ1 d ev q v g _ => ?_⟩, ?_⟩
  · obtain ⟨d, fr⟩ := d
    simp only at q g
    cases d with
    | bool k =>
      simp only [Good] at g
      refine ⟨k, g, ?_⟩
      cases k with
      | true => exact iteT ⟨S1, ρ1, ev.env, q.thn fun S2 H2 ρ2 d2 ev2 q v g f => q v g fun z => (f z).back ev⟩
      | false => exact iteF (q.now ev.env _ (by simp only [Good]) fun z => nomatch z)
    | _ => exact q.elim
  · refine ⟨fun whole pins s σ H Q I ⟨S, ρ, E, h⟩ => (pw_and ha.t hbt).run whole pins s σ H Q I ⟨S, ρ, E, h.bind.thn fun S1 H1 ρ1 k ev q => ?_⟩⟩
    cases k with
    | true => exact iteT ⟨S1, ρ1, ev.env, q⟩
    | false => exact iteF (q.now ev.env)
end
end MP
end
section
set_option Elab.async false
set_option linter.all false
set_option autoImplicit false
set_option maxRecDepth 100000
set_option maxHeartbeats 4000001
namespace MP
open PySem.Spec PyProof.Rows L2 PySem

section
variable {X : Cx} {H0 : Hp} {W : WX} {a b c e : Expr} {es : List Expr} {ma mb mc m : Sm} {ms : List Sm} {pos p p2 : Pos}
theorem sv_or {rest : List Expr} (ha : SV X H0 W a ma) (hb : PE X (.BoolOp .Or (b :: rest) pos) (tV X.K H0 W mb.v)) (hbt : PW X (.BoolOp .Or (b :: rest) pos) (tT X.K H0 W mb.t)) :
    PE X (.BoolOp .Or (a :: b :: rest) pos) (tV X.K H0 W (v_or ma mb)) ∧ PW X (.BoolOp .Or (a :: b :: rest) pos) (tT X.K H0 W (t_or ma mb)) := by
  refine ⟨PE.weak (pe_or ha.v hb) fun σ H Q ⟨S, ρ, E, h⟩ => ⟨S, ρ, E, h.bind.thn fun S1 H1 ρ1 d ev q v g _ => ?_⟩, ?_⟩
  · obtain ⟨d, fr⟩ := d
    simp only at q g
    cases d with
    | bool k =>
      simp only [Good] at g
      refine ⟨k, g, ?_⟩
      cases k with
      | false => exact iteF ⟨S1, ρ1, ev.env, q.thn fun S2 H2 ρ2 d2 ev2 q v g f => q v g fun z => (f z).back ev⟩
      | true => exact iteT (q.now ev.env _ (by simp only [Good]) fun z => nomatch z)
    | _ => exact q.elim
  · refine ⟨fun whole pins s σ H Q I ⟨S, ρ, E, h⟩ => (pw_or ha.t hbt).run whole pins s σ H Q I ⟨S, ρ, E, h.bind.thn fun S1 H1 ρ1 k ev q => ?_⟩⟩
    cases k with
    | false => exact iteF ⟨S1, ρ1, ev.env, q⟩
    | true => exact iteT (q.now ev.env)
/-- a row of ands, of ors -/
inductive BO (X : Cx) (H0 : Hp) (W : WX) : Bool → List Expr → Sm → Prop
  | one {k : Bool} {e : Expr} {m : Sm} : SV X H0 W e m → BO X H0 W k [e] m
  | an {a b : Expr} {r : List Expr} {ma mb : Sm} : SV X H0 W a ma → BO X H0 W true (b :: r) mb → BO X H0 W true (a :: b :: r) (andS ma mb)
  | or {a b : Expr} {r : List Expr} {ma mb : Sm} : SV X H0 W a ma → BO X H0 W false (b :: r) mb → BO X H0 W false (a :: b :: r) (orS ma mb)
def boOp (k : Bool) : BoolOp := if k = true then .And else .Or
theorem bo_ok {k : Bool} (h : BO X H0 W k es m) : PE X (.BoolOp (boOp k) es pos) (tV X.K H0 W m.v) ∧ PW X (.BoolOp (boOp k) es pos) (tT X.K H0 W m.t) := by
  induction h with
  | one h =>
    rename_i k e m
    refine ⟨pe_one h.v, ?_⟩
    cases k
    · exact pw_or1 h.t
    · exact pw_and1 h.t
  | an h _ ih => exact sv_an h ih.1 ih.2
  | or h _ ih => exact sv_or h ih.1 ih.2
theorem sv_and (ha : SV X H0 W a ma) (h : BO X H0 W true (b :: es) mb) : SV X H0 W (.BoolOp .And (a :: b :: es) pos) (andS ma mb) := by
  have q := bo_ok (pos := pos) (.an ha h)
  exact ⟨q.1, q.2.pt, sv_o q.1⟩
theorem sv_orr (ha : SV X H0 W a ma) (h : BO X H0 W false (b :: es) mb) : SV X H0 W (.BoolOp .Or (a :: b :: es) pos) (orS ma mb) := by
  have q := bo_ok (pos := pos) (.or ha h)
  exact ⟨q.1, q.2.pt, sv_o q.1⟩
theorem sv_nt (ha : SV X H0 W a ma) : SV X H0 W (.UnaryOp .Not a pos) ⟨v_nt ma, t_nt ma, none⟩ := by
  have hv : PE X (.UnaryOp .Not a pos) (tV X.K H0 W (v_nt ma)) := by
    refine PE.weak (pe_notT ha.o) fun σ H Q ⟨S, ρ, E, h⟩ => ⟨S, ρ, E, h.bind.thn fun S1 H1 ρ1 o ev q x ok => ?_⟩
    obtain ⟨b, hb, q⟩ := q.opt
    rw [Option.bind_eq_some_iff] at hb
    obtain ⟨d, hd, hb⟩ := hb
    exact ⟨b, truth_b (ok.rd ev.env hd) hb, q.now ev.env _ (by simp only [Good]) fun z => nomatch z⟩
  refine ⟨hv, PT.weak (pt_not ha.t) fun σ H Q ⟨S, ρ, E, h⟩ => ⟨S, ρ, E, h.bind.thn fun S1 H1 ρ1 k ev q => q.now ev.env⟩, sv_o hv⟩
theorem sv_ie (hc : SV X H0 W c mc) (ha : SV X H0 W a ma) (hb : SV X H0 W b mb) : SV X H0 W (.IfExp c a b pos) ⟨v_ie mc ma mb, fun _ => .st, none⟩ := by
  have hv : PE X (.IfExp c a b pos) (tV X.K H0 W (v_ie mc ma mb)) := by
    refine PE.weak (pe_ifExp hc.t ha.v hb.v) fun σ H Q ⟨S, ρ, E, h⟩ => ⟨S, ρ, E, h.bind.thn fun S1 H1 ρ1 k ev q => ?_⟩
    cases k with
    | true => exact iteT ⟨S1, ρ1, ev.env, q.thn fun S2 H2 ρ2 d2 ev2 q v g f => q v g fun z => (f z).back ev⟩
    | false => exact iteF ⟨S1, ρ1, ev.env, q.thn fun S2 H2 ρ2 d2 ev2 q v g f => q v g fun z => (f z).back ev⟩
  exact ⟨hv, ⟨fun pins s σ H Q I ⟨S, ρ, E, h⟩ => h.elim⟩, sv_o hv⟩
/-! ### {} -/
theorem sv_dn (t : Bool) : SV X H0 W (.Dict [] [] pos) (MP.mk fun ρ => .ok (.dict (if t then [(.none, .none)] else []), true) ρ) := by
  refine SV.mk' ?_ fun _ => rfl
  cases t with
  | false =>
    refine PE.weak pe_dnewK fun σ H Q ⟨S, ρ, E, h⟩ p hp => ?_
    have sm := same_upd (o := .dK []) hp
    refine h S _ (Evo.same E sm) (.ref p) ?_ fun _ => ⟨⟨p, rfl, hp, Dom.new E.dom hp, ?_⟩, fun q e => by cases e; exact E.more sm hp (by rw [upd_same]; exact fun z => nomatch z)⟩
    · show Good X.K S _ (.dict []) (.ref p)
      simp only [Good]
      exact ⟨p, rfl, Dom.new E.dom hp, .inl ⟨[], .inl upd_same, by simp only [GoodK]⟩⟩
    · exact .inl ⟨[], upd_same, by show GoodK X.K _ _ [] []; simp only [GoodK]⟩
  | true =>
    refine PE.weak pe_dnewT fun σ H Q ⟨S, ρ, E, h⟩ p hp => ?_
    have sm := same_upd (o := .dT []) hp
    refine h S _ (Evo.same E sm) (.ref p) ?_ fun _ => ⟨⟨p, rfl, hp, Dom.new E.dom hp, ?_⟩, fun q e => by cases e; exact E.more sm hp (by rw [upd_same]; exact fun z => nomatch z)⟩
    · show Good X.K S _ (.dict [(.none, .none)]) (.ref p)
      simp only [Good]
      exact ⟨p, rfl, Dom.new E.dom hp, .inr (GoodH.of upd_same (by simp only [GoodT]))⟩
    · exact .inr (GoodH.of upd_same (by simp only [GoodT]))
end
end MP
end
section
set_option Elab.async false
set_option linter.all false
set_option autoImplicit false
set_option maxRecDepth 100000
set_option maxHeartbeats 4000001
namespace MP
open PySem.Spec PyProof.Rows L2 PySem

/-- operands and the slots that go to the callee -/
def Shape : List Opd → Rho → Prop
  | [], as => as = []
  | .val d :: r, as => ∃ q, as = .sh d :: q ∧ Shape r q
  | .slot _ :: r, as => ∃ d q, as = .mu false d :: q ∧ Shape r q
section
variable {K : PySem.W.Frag} {H0 : Hp} {W : WX} {σ : L2.St} {S : List Addr} {H H' : Hp} {ρ ρ' : Rho}
theorem shape_of : ∀ {os : List Opd} {as : Rho}, argsOf ρ os = some as → Shape os as
  | [], as, h => by cases h; rfl
  | .val d :: r, as, h => by
    simp only [argsOf, Option.map_eq_some_iff] at h
    obtain ⟨q, hq, e⟩ := h
    exact ⟨q, e.symm, shape_of hq⟩
  | .slot i :: r, as, h => by
    simp only [argsOf] at h
    split at h
    · rw [Option.map_eq_some_iff] at h
      obtain ⟨q, hq, e⟩ := h
      exact ⟨_, q, e.symm, shape_of hq⟩
    · cases h
theorem args_ok (E : EnvOk K H0 S σ H ρ) : ∀ {os : List Opd} {as : Rho} {vs : List V}, argsOf ρ os = some as → OpdsOk K S H σ os vs → ArgsOk K S H as vs
  | [], as, vs, h, o => by cases h; exact o
  | .val d :: r, as, vs, h, o => by
    simp only [argsOf, Option.map_eq_some_iff] at h
    obtain ⟨q, hq, e⟩ := h
    obtain ⟨v, r', ev, h1, h2⟩ := o
    subst e
    exact ⟨v, r', ev, h1, args_ok E hq h2⟩
  | .slot i :: r, as, vs, h, o => by
    simp only [argsOf] at h
    split at h
    · rename_i t d hi
      rw [Option.map_eq_some_iff] at h
      obtain ⟨q, hq, e⟩ := h
      obtain ⟨v, r', ev, h1, h2⟩ := o
      obtain ⟨a, ha, hS, hc, _⟩ := E.mu i _ _ (.inl hi)
      have h1' : σ[i]? = some (some v) := h1
      rw [ha] at h1'
      cases h1'
      subst e
      exact ⟨a, r', ev, ⟨hS, hc⟩, args_ok E hq h2⟩
    · cases h
/-- the lent addresses are those of the slots -/
theorem io_slot : ∀ {os : List Opd} {as : Rho} {vs : List V}, Shape os as → OpdsOk K S H σ os vs → ∀ a, a ∈ ioAs as vs → ∃ i, i ∈ slotsOf os ∧ σ[i]? = some (some (.ref a))
  | [], as, vs, h, o, a, m => by
    have h' : as = [] := h
    subst h'
    cases m
  | .val d :: r, as, vs, h, o, a, m => by
    obtain ⟨q, e, hq⟩ := h
    obtain ⟨v, r', ev, h1, h2⟩ := o
    subst e ev
    exact io_slot hq h2 a m
  | .slot i :: r, as, vs, h, o, a, m => by
    obtain ⟨d, q, e, hq⟩ := h
    obtain ⟨v, r', ev, h1, h2⟩ := o
    subst e ev
    cases v with
    | ref b =>
      rcases List.mem_cons.mp m with e | m
      · subst e
        exact ⟨i, List.mem_cons_self, h1⟩
      · obtain ⟨j, hj, hs⟩ := io_slot hq h2 a m
        exact ⟨j, List.mem_cons_of_mem _ hj, hs⟩
    | _ =>
      obtain ⟨j, hj, hs⟩ := io_slot hq h2 a m
      exact ⟨j, List.mem_cons_of_mem _ hj, hs⟩
theorem nodup_cons {x : Nat} {r : List Nat} (h : nodup (x :: r) = true) : x ∉ r ∧ nodup r = true := by
  unfold nodup at h
  rw [Bool.and_eq_true] at h
  exact ⟨by simpa using h.1, h.2⟩
theorem slot_mu : ∀ {os : List Opd} {as : Rho}, argsOf ρ os = some as → ∀ i, i ∈ slotsOf os → ∃ t d, ρ[i]? = some (.mu t d)
  | [], _, _, _, m => by cases m
  | .val d :: r, as, h, i, m => by
    simp only [argsOf, Option.map_eq_some_iff] at h
    obtain ⟨q, hq, e⟩ := h
    exact slot_mu hq i m
  | .slot j :: r, as, h, i, m => by
    simp only [argsOf] at h
    split at h
    · rename_i t d hi
      rw [Option.map_eq_some_iff] at h
      obtain ⟨q, hq, e⟩ := h
      rcases List.mem_cons.mp m with e | m
      · subst e; exact ⟨_, _, hi⟩
      · exact slot_mu hq i m
    · cases h
theorem io_nodup (E : EnvOk K H0 S σ H ρ) : ∀ {os : List Opd} {as : Rho} {vs : List V}, argsOf ρ os = some as → nodup (slotsOf os) = true → OpdsOk K S H σ os vs → (ioAs as vs).Nodup
  | [], as, vs, h, _, o => by
    cases h
    exact List.Pairwise.nil
  | .val d :: r, as, vs, h, n, o => by
    simp only [argsOf, Option.map_eq_some_iff] at h
    obtain ⟨q, hq, e⟩ := h
    obtain ⟨v, r', ev, h1, h2⟩ := o
    subst e ev
    have ih := io_nodup E hq (show nodup (slotsOf r) = true from n) h2
    have e : ioAs (Sl.sh d :: q) (v :: r') = ioAs q r' := by simp only [ioAs]
    rw [e]
    exact ih
  | .slot i :: r, as, vs, h, n, o => by
    have hsl := slot_mu h
    simp only [argsOf] at h
    split at h
    · rename_i t d hi
      rw [Option.map_eq_some_iff] at h
      obtain ⟨q, hq, e⟩ := h
      obtain ⟨v, r', ev, h1, h2⟩ := o
      obtain ⟨a, ha, hS, hc, _⟩ := E.mu i _ _ (.inl hi)
      have h1' : σ[i]? = some (some v) := h1
      rw [ha] at h1'
      cases h1'
      subst e ev
      obtain ⟨n1, n2⟩ := nodup_cons n
      refine List.nodup_cons.mpr ⟨fun m => ?_, io_nodup E hq n2 h2⟩
      obtain ⟨j, hj, hs⟩ := io_slot (shape_of hq) h2 a m
      obtain ⟨t', d', hj'⟩ := hsl j (List.mem_cons_of_mem _ hj)
      exact E.apart i j _ _ a (fun e => n1 (e ▸ hj)) hi hj' rfl rfl ha hs
    · cases h
/-- what comes back -/
theorem back_spec {S2 : List Addr} : ∀ {os : List Opd} {as outs : Rho} {vs : List V} {ρ ρ' : Rho}, Shape os as → nodup (slotsOf os) = true → OpdsOk K S H σ os vs → OutsOk K S2 H' as outs vs → back ρ os outs = some ρ' →
    ρ'.length = ρ.length ∧ (∀ j, j ∉ slotsOf os → ρ'[j]? = ρ[j]?) ∧ ∀ j, j ∈ slotsOf os → ∃ t d0 d a, ρ[j]? = some (.mu t d0) ∧ ρ'[j]? = some (.mu t d) ∧ σ[j]? = some (some (.ref a)) ∧ Cont K S2 H' a d
  | [], as, outs, vs, ρ, ρ', _, _, _, _, h => by
    simp only [back] at h
    cases h
    exact ⟨rfl, fun _ _ => rfl, fun j m => (by cases m)⟩
  | .val d :: r, as, outs, vs, ρ, ρ', hs, n, o, oo, h => by
    obtain ⟨q, e, hq⟩ := hs
    obtain ⟨v, r', ev, h1, h2⟩ := o
    subst e ev
    cases outs with
    | nil => simp only [back] at h; cases h
    | cons x outs =>
      simp only [back] at h
      have ih := back_spec hq (show nodup (slotsOf r) = true from n) h2 oo h
      exact ih
  | .slot i :: r, as, outs, vs, ρ, ρ', hs, n, o, oo, h => by
    obtain ⟨d, q, e, hq⟩ := hs
    obtain ⟨v, r', ev, h1, h2⟩ := o
    subst e ev
    obtain ⟨n1, n2⟩ := nodup_cons n
    cases outs with
    | nil => simp only [back] at h; cases h
    | cons x outs =>
      cases x with
      | mu tx dx =>
        simp only [back] at h
        split at h
        · rename_i t d0 hi
          cases v with
          | ref a =>
            obtain ⟨hc, oo⟩ := oo
            obtain ⟨l, k1, k2⟩ := back_spec hq n2 h2 oo h
            rw [List.length_set] at l
            refine ⟨l, fun j hj => ?_, fun j hj => ?_⟩
            · have hj' : j ≠ i ∧ j ∉ slotsOf r := ⟨fun e => hj (e ▸ List.mem_cons_self), fun m => hj (List.mem_cons_of_mem _ m)⟩
              rw [k1 j hj'.2, List.getElem?_set_ne (Ne.symm hj'.1)]
            · rcases List.mem_cons.mp hj with e | m
              · subst e
                refine ⟨t, d0, dx, a, hi, ?_, h1, hc⟩
                have hlt : j < ρ.length := (List.getElem?_eq_some_iff.mp hi).1
                rw [k1 j n1, List.getElem?_set_self hlt]
              · obtain ⟨t', d0', d', a', q1, q2, q3, q4⟩ := k2 j m
                rw [List.getElem?_set_ne (fun e : i = j => n1 (e ▸ m))] at q1
                exact ⟨t', d0', d', a', q1, q2, q3, q4⟩
          | _ => exact oo.elim
        · cases h
      | no => simp only [back] at h; cases h
      | sh _ => simp only [back] at h; cases h
      | lk _ _ => simp only [back] at h; cases h
theorem call_evo (E : EnvOk K H0 S σ H ρ) {os : List Opd} {as outs : Rho} {vs : List V} (ha : argsOf ρ os = some as) (n : nodup (slotsOf os) = true) (o : OpdsOk K S H σ os vs) (hb : back ρ os outs = some ρ')
    (keep : ∀ a o, H a = some o → a ∉ ioAs as vs → H' a = some o) {S2 : List Addr} (oo : OutsOk K S2 H' as outs vs) (s1 : ∀ a, a ∈ S2 → a ∈ S ∨ H a = none) (s2 : ∀ a, a ∈ S → a ∈ S2) (s3 : ∀ a, a ∈ S2 → H a = none → H' a ≠ none) : Evo K H0 σ S H ρ σ S2 H' ρ' := by
  have sh := shape_of ha
  obtain ⟨l, k1, k2⟩ := back_spec sh n o oo hb
  have io := io_slot sh o
  have iom : ∀ a, a ∈ ioAs as vs → MA σ ρ a := fun a m => by
    obtain ⟨i, hi, hs⟩ := io a m
    obtain ⟨t, d, hd⟩ := slot_mu ha i hi
    exact ⟨i, t, d, hd, hs⟩
  have chg : Chg S S2 H H' (fun a => a ∈ ioAs as vs) := ⟨fun a x h m => keep a x h m, fun a m => E.ma (iom a m), s1⟩
  have there : ∀ a, H a ≠ none → H' a ≠ none := fun a h => by
    cases q : H a with
    | none => exact absurd q h
    | some x =>
      by_cases m : a ∈ ioAs as vs
      · obtain ⟨i, hi, hs⟩ := io a m
        obtain ⟨t, d0, d, a', _, _, hs', hc⟩ := k2 i hi
        rw [hs] at hs'
        cases hs'
        obtain ⟨x, hx, _⟩ := hc.mut
        rw [hx]
        exact fun z => nomatch z
      · rw [keep a x q m]
        exact fun z => nomatch z
  have same : ∀ j s, ρ'[j]? = some s → j ∉ slotsOf os → ρ[j]? = some s := fun j s h m => by rw [← k1 j m]; exact h
  have kind : ∀ j s, ρ'[j]? = some s → isMu s = true → ∃ s', ρ[j]? = some s' ∧ isMu s' = true := fun j s h hm => by
    by_cases m : j ∈ slotsOf os
    · obtain ⟨t, d0, d, a', q, _⟩ := k2 j m
      exact ⟨_, q, rfl⟩
    · exact ⟨s, same j s h m, hm⟩
  have env : EnvOk K H0 S2 σ H' ρ' := by
    refine ⟨l.trans E.len, fun j d h => ?_, fun j t d h => ?_, fun i j s t a hij h1 h2 m1 m2 q1 q2 => ?_, fun a m => (s1 a m).elim (fun h => there a (E.dom a h)) fun h => s3 a m h, fun a h => there a (E.ent a h)⟩
    · by_cases m : j ∈ slotsOf os
      · obtain ⟨t, d0, d', a', _, q, _⟩ := k2 j m
        rw [q] at h; cases h
      · obtain ⟨v, hv, g⟩ := E.sh j d (same j _ h m)
        exact ⟨v, hv, Good.chg chg d v g⟩
    · by_cases m : j ∈ slotsOf os
      · obtain ⟨t', d0, d', a', q0, q, qs, qc⟩ := k2 j m
        rcases h with h | h
        · rw [q] at h
          cases h
          obtain ⟨b, hb, hS, _, hf⟩ := E.mu j _ _ (.inl q0)
          rw [qs] at hb
          cases hb
          exact ⟨a', qs, s2 _ hS, qc, hf⟩
        · rw [q] at h; cases h
      · have h' : ρ[j]? = some (.mu t d) ∨ ρ[j]? = some (.lk t d) := h.imp (fun h => same j _ h m) (fun h => same j _ h m)
        obtain ⟨b, hb, hS, hc, hf⟩ := E.mu j t d h'
        refine ⟨b, hb, s2 _ hS, Cont.chg chg (fun mb => ?_) hc, hf⟩
        obtain ⟨i, hi, hs⟩ := io b mb
        obtain ⟨t', d', hd'⟩ := slot_mu ha i hi
        rcases h' with h' | h'
        · exact E.apart i j _ _ b (fun e => m (e ▸ hi)) hd' h' rfl rfl hs hb
        · exact E.apart i j _ _ b (fun e => m (e ▸ hi)) hd' h' rfl rfl hs hb
    · obtain ⟨s', hs', ms'⟩ := kind i s h1 m1
      obtain ⟨t', ht', mt'⟩ := kind j t h2 m2
      exact E.apart i j s' t' a hij hs' ht' ms' mt' q1 q2
  refine ⟨fun a x h nm => keep a x h fun m => nm (iom a m), s1, fun a h _ => s2 a h, fun a ⟨j, t, d, h, hs⟩ => ?_, fun b ⟨j, s, h, hm, hs⟩ => .inl (let ⟨s', h1, h2⟩ := kind j s h hm; ⟨j, s', h1, h2, hs⟩), fun j s h m => ⟨rfl, ?_⟩, there, fun j t d h => ⟨?_, rfl⟩, env⟩
  rotate_left
  · by_cases mj : j ∈ slotsOf os
    · obtain ⟨t', d0, d', a', q0, q1, _⟩ := k2 j mj
      rw [q0] at h
      cases h
      refine ⟨_, q1, ?_⟩
      cases t' with
      | true => cases m
      | false => rfl
    · exact ⟨s, by rw [k1 j mj]; exact h, m⟩
  · have hj : j ∉ slotsOf os := fun m => by
      obtain ⟨t', d', hd'⟩ := slot_mu ha j m
      rw [h] at hd'
      cases hd'
    rw [k1 j hj]
    exact h
  by_cases m : j ∈ slotsOf os
  · obtain ⟨t', d0, d', a', q0, _⟩ := k2 j m
    exact .inl ⟨j, t', d0, q0, hs⟩
  · exact .inl ⟨j, t, d, same j _ h m, hs⟩
end
section
variable {X : Cx} {H0 : Hp} {W : WX} {e : Expr} {es : List Expr} {ma mb mc m : Sm} {ms : List Sm} {pos p p2 : Pos} {cc : Cc} {cf : CT} {lev : Nat}
/-- lent or given -/
theorem SV.a (h : SV X H0 W e m) (k : Bool) : PE X e (tO X.K H0 W (m.a k)) := by
  cases k with
  | false => exact sv_o h.v
  | true =>
    cases hs : m.s with
    | none =>
      refine PE.weak h.o fun σ H Q ⟨S, ρ, E, q⟩ => ?_
      simp only [Sm.a, hs] at q
      exact q.elim
    | some i =>
      refine PE.weak h.o fun σ H Q ⟨S, ρ, E, q⟩ => ⟨S, ρ, E, ?_⟩
      simp only [Sm.a, hs, ioV] at q
      simp only [Sm.o, hs, opdV]
      cases hi : ρ[i]? with
      | none => rw [hi] at q; exact q.elim
      | some s =>
        rw [hi] at q
        cases s with
        | mu t d => exact q
        | no => exact q.elim
        | sh _ => exact q.elim
        | lk _ _ => exact q.elim
theorem evAs_cons (m : Sm) (ms : List Sm) (b : Bool) (bs : List Bool) : evAs (m :: ms) (b :: bs) = fun ρ => (m.a b ρ).bind fun o ρ1 => (evAs ms bs ρ1).bind fun os ρ2 => .ok (o :: os) ρ2 := rfl
theorem args_a (h : SVs X H0 W es ms) (hp : es.all plainE = true) : ∀ io : List Bool, io.length = ms.length → PA X es (tOs X.K H0 W (evAs ms io)) := by
  induction h with
  | nil =>
    intro io hl
    cases io with
    | nil => exact PA.weak pa_nil fun σ H Q ⟨S, ρ, E, q⟩ => q.now E [] rfl
    | cons _ _ => cases hl
  | cons h1 h2 ih =>
    intro io hl
    cases io with
    | nil => cases hl
    | cons b bs =>
      rw [List.all_cons, Bool.and_eq_true] at hp
      refine PA.weak (pa_cons (h1.a b) (ih hp.2 bs (by simpa using hl)) (star_plain hp.1)) fun σ H Q ⟨S, ρ, E, q⟩ => ?_
      rw [evAs_cons] at q
      exact ⟨S, ρ, E, q.bind.thn fun S1 H1 ρ1 o ev q x ok => ⟨S1, ρ1, ev.env, q.bind.thn fun S2 H2 ρ2 os ev2 q xs oks => q.now ev2.env (x :: xs) ⟨x, xs, rfl, ok.evo ev.env ev2, oks⟩⟩⟩
theorem opds_len {K : PySem.W.Frag} {S : List Addr} {H : Hp} {σ : L2.St} : ∀ {os : List Opd} {vs : List V}, OpdsOk K S H σ os vs → vs.length = os.length
  | [], _, h => by
    have h' : _ = [] := h
    rw [h']; rfl
  | o :: os, _, ⟨v, r, e, _, h⟩ => by rw [e, List.length_cons, List.length_cons, opds_len h]
/-- the call itself, from its operands -/
theorem call_weak {f : Str} {os : List Opd} {S : List Addr} {H1 H : Hp} {ρ ρ0 : Rho} {S0 : List Addr} {σ : L2.St} {vs : List V} {n : Nat} {Q : VK} (ev : Evo X.K H0 σ S0 H ρ0 σ S H1 ρ) (oks : OpdsOk X.K S H1 σ os vs) (hn : os.length = n)
    (q : Aft X.K H0 W σ S H1 ρ (callR cf f os ρ) (wV X.K H0 σ H Q)) : spV X.K cf f n vs H1 Q (fun cls d H' => W cls d σ H') := by
  unfold callR at q
  by_cases nd : nodup (slotsOf os) = true
  · rw [if_pos nd] at q
    cases ha : argsOf ρ os with
    | none => rw [ha] at q; exact q.elim
    | some as =>
      rw [ha] at q
      refine ⟨(opds_len oks).trans hn, S, as, ev.env.dom, args_ok ev.env ha oks, io_nodup ev.env ha nd oks, ?_⟩
      simp only at q
      cases hc : cf f as with
      | st => rw [hc] at q; exact q.elim
      | ok d fr outs =>
        rw [hc] at q
        intro H' v keep oo g fr'
        simp only at q
        cases hb : back ρ os outs with
        | none => rw [hb] at q; exact q.elim
        | some ρ' =>
          rw [hb] at q
          refine q S H' (call_evo ev.env ha nd oks hb keep oo (fun _ h => .inl h) (fun _ h => h) fun a h e => absurd e (ev.env.dom a h)) v g fun z => ⟨(fr' z).1.back ev, fun p e => ?_⟩
          obtain ⟨⟨p', e', h, n, c⟩, oo2⟩ := fr' z
          rw [e] at e'
          cases e'
          refine (call_evo ev.env ha nd oks hb keep (oo2 p e) (fun a m => ?_) (fun a m => List.mem_cons_of_mem _ m) fun a m h' => ?_).env
          · rcases List.mem_cons.mp m with q | q
            · exact .inr (q ▸ h)
            · exact .inl q
          · rcases List.mem_cons.mp m with q | q
            · obtain ⟨o, ho, _⟩ := c.mut
              rw [q, ho]
              exact fun z => nomatch z
            · exact absurd h' (ev.env.dom a q)
      | ex c outs =>
        rw [hc] at q
        intro H' keep oo
        simp only at q
        cases hb : back ρ os outs with
        | none => rw [hb] at q; exact q.elim
        | some ρ' =>
          rw [hb] at q
          exact q S H' (call_evo ev.env ha nd oks hb keep oo (fun _ h => .inl h) (fun _ h => h) fun a h e => absurd e (ev.env.dom a h))
  · rw [if_neg nd] at q
    exact q.elim
theorem evAs_len : ∀ {ms : List Sm} {io : List Bool} {ρ ρ' : Rho} {os : List Opd}, evAs ms io ρ = .ok os ρ' → os.length = ms.length
  | [], [], ρ, ρ', os, h => by
    cases h
    rfl
  | [], _ :: _, ρ, ρ', os, h => by cases h
  | _ :: _, [], ρ, ρ', os, h => by cases h
  | m :: ms, b :: bs, ρ, ρ', os, h => by
    rw [evAs_cons] at h
    simp only at h
    cases h1 : m.a b ρ with
    | st => rw [h1] at h; cases h
    | ex c q => rw [h1] at h; cases h
    | ok o ρ1 =>
      rw [h1] at h
      simp only [R.bind] at h
      cases h2 : evAs ms bs ρ1 with
      | st => rw [h2] at h; cases h
      | ex c q => rw [h2] at h; cases h
      | ok os ρ2 =>
        rw [h2] at h
        cases h
        rw [List.length_cons, List.length_cons, evAs_len h2]
theorem Aft.len {K : PySem.W.Frag} {α : Type} {r : R α} {σ : L2.St} {S : List Addr} {H : Hp} {ρ : Rho} {P : List Addr → Hp → Rho → α → Prop} (h : Aft K H0 W σ S H ρ r P) : Aft K H0 W σ S H ρ r fun S1 H1 ρ1 a => r = .ok a ρ1 ∧ P S1 H1 ρ1 a := by
  cases r with
  | st => exact h
  | ex c q => exact h
  | ok a ρ1 => exact fun S1 H1 ev => ⟨rfl, h S1 H1 ev⟩
/-- f(..), a def of the text -/
theorem sv_ca {f : Str} {io : List Bool} (G : GX X cc cf W lev) (hf : (f, ms.length) ∈ cc.funs) (hg : Gl X f) (hdb : (f == ("__debug__" : Str)) = false) (h : SVs X H0 W (e :: es) ms) (hp : (e :: es).all plainE = true) (hio : io.length = ms.length) :
    SV X H0 W (.Call (.Name f p) (e :: es) [] pos) (MP.mk (v_ca cf f ms io)) := by
  obtain ⟨fa, fd, ps, hl, hm, hk, hb, hF⟩ := G.funs f _ hf
  have hp' := hp
  rw [List.all_cons, Bool.and_eq_true] at hp'
  refine SV.mk' (PE.weak (pe_callS hF G.room hg hm hk hb (fun σ => passAt G.tk σ) (args_a h hp io hio) (hdb := hdb) (he := star_plain hp'.1) (hpl := stars_plain hp'.2)) fun σ H Q ⟨S, ρ, E, h⟩ => ?_) fun _ => rfl
  refine ⟨S, ρ, E, h.bind.len.thn fun S1 H1 ρ1 os ev ⟨ho, q⟩ vs oks => ?_⟩
  exact call_weak ev oks (evAs_len ho) q
end
end MP
end
section
set_option Elab.async false
set_option linter.all false
set_option autoImplicit false
set_option maxRecDepth 100000
set_option maxHeartbeats 4000001
/-! walks of enumerate and of zip over lists, tuples and texts alike -/
namespace PySem
open Sem (wp)
/-- the object that enumerate(v) is at first, the iterator of v standing at a -/
def enumAt (a : Addr) : Obj := { cls := .type "enumerate", data := .fields #[.none, .bool false, .ref a, rawInt 0, .none, .none] }
theorem made_enum {v : Value} {o : Obj} {P : Heap → Prop} (B : Begins v o P) :
    Meets (Builtin.«enumerate.__new__» ⟨[.type "enumerate", v], []⟩) (fun _ R s => P s.heap ∧ R (.ok (.ret (.ref (s.heap.push o).objs.size))) { s with heap := (s.heap.push o).push (enumAt s.heap.objs.size) }) :=
  .of_wp fun pr wo ar re sh hyp => by
    obtain ⟨h0, gs, dr, tk, os⟩ := sh; obtain ⟨at0, out⟩ := hyp
    have isSub := sub_enumerate
    have begin_ : ∀ {A' : Around} {E' : Value → Shared → Prop} {Q' : Value → Shared → Prop}, Q' (.ref h0.objs.size) ⟨h0.push o, gs, dr, tk, os⟩ → wpAny (model pr wo) A' (pyIter v) Q' E' ⟨h0, gs, dr, tk, os⟩ := fun k => B.iter pr wo _ _ ⟨h0, gs, dr, tk, os⟩ _ at0 k
    wp_walk using begin_
    refine wpAny_stack_any (fun below => wpAny_pure ?_)
    split
    · rename_i cl _ _ _ _ _
      cases cl == Value.type "enumerate" <;> (wp_walk using begin_; exact ⟨_, rfl, out⟩)
    · wp_walk using begin_; exact ⟨_, rfl, out⟩
theorem enum_starts {prog : Program} {w : World} {A : Around} {E : Value → Shared → Prop} {s : Shared} {v : Value} {o : Obj} {P : Heap → Prop} {Q : Value → Shared → Prop} (B : Begins v o P) (p : P s.heap)
    (k : ∀ h2, (IsEnum h2 (s.heap.objs.size + 1) s.heap.objs.size 0 .none ∧ h2.get? s.heap.objs.size = some o) → (∀ b x, s.heap.get? b = some x → h2.get? b = some x) → Q (.ref (s.heap.objs.size + 1)) { s with heap := h2 }) :
    wpAny (model prog w) A (call (.type "enumerate") [v]) Q E s := by
  refine callType_new F.called_enumerate (by decide) (F.typeCall_enumerate_1 _) (F.newCall_enumerate_1 _) (fun x => F.args_object_init_2 x _) F.entry_enumerate_new (made_enum B) ⟨p, ?_⟩
  have one : (s.heap.push o).objs.size = s.heap.objs.size + 1 := Heap.size_push _ _
  have is : IsEnum ((s.heap.push o).push (enumAt s.heap.objs.size)) (s.heap.objs.size + 1) s.heap.objs.size 0 .none := by
    have z := Heap.get?_push_size (s.heap.push o) (o := enumAt s.heap.objs.size) rfl
    rw [one] at z
    exact z
  show _ ∧ _
  rw [one]
  exact ⟨⟨_, is, rfl⟩, k _ ⟨is, Heap.get?_push_of_some _ (Heap.get?_push_size _ B.free)⟩ fun b x y => Heap.get?_push_of_some _ (Heap.get?_push_of_some _ y)⟩
end PySem
/-! PROVENANCE of MiniIter: parts of this text began as rows of the library's HandS/Iter, HandS/Zip and KE/GoesEnumKw and were then rewritten; the plan is the library's -/
namespace MP
open PySem.Spec PyProof.Rows L2 PySem

/-- what enumerate, zip go over -/
inductive Sc where
  | l (a : Addr) | t (a : Addr) | s (x : Str) (t : Tok)
def ScAt (K : PySem.W.Frag) (H : Hp) : Sc → List V → Prop
  | .l a, xs => SqL K H a xs
  | .t a, xs => SqT K H a xs
  | .s x _, xs => xs = x.cps.toList.map fun c => V.str ⟨#[c]⟩
def ScIt (h : Heap) (it : Addr) (i : Nat) : Sc → Prop
  | .l a => h.IsListIter it a i
  | .t a => h.IsTupleIter it a i
  | .s x t => h.IsStrIter it (strIterType x) x t i
def ScV : Sc → Value → Prop
  | .l a, u => u = .ref a
  | .t a, u => u = .ref a
  | .s x t, u => u = .str x t
def scObj : Sc → Obj
  | .l a => { cls := .type "list_iterator", data := .fields #[.ref a, .int 0 0] }
  | .t a => { cls := .type "tuple_iterator", data := .fields #[.ref a, .int 0 0] }
  | .s x t => { cls := .type (strIterType x), data := .fields #[.str x t, .int 0 0] }
theorem scIt_new {h : Heap} {it : Addr} : ∀ {sc : Sc}, h.get? it = some (scObj sc) → ScIt h it 0 sc
  | .l _, e => ⟨_, e, rfl, rfl⟩
  | .t _, e => ⟨_, e, rfl, rfl⟩
  | .s _ _, e => ⟨_, e, rfl, rfl⟩
theorem scIt_at {h h' : Heap} {it : Addr} {i : Nat} (k : ∀ o, h.get? it = some o → h'.get? it = some o) : ∀ {sc : Sc}, ScIt h it i sc → ScIt h' it i sc
  | .l _, ⟨o, e, r⟩ => ⟨o, k o e, r⟩
  | .t _, ⟨o, e, r⟩ => ⟨o, k o e, r⟩
  | .s _ _, ⟨o, e, r⟩ => ⟨o, k o e, r⟩
theorem scIt_obj {h : Heap} {it : Addr} {i : Nat} : ∀ {sc : Sc}, ScIt h it i sc → ∃ o, h.get? it = some o ∧ ∀ v, o.data ≠ .cell v
  | .l _, ⟨o, e, _, d⟩ => ⟨o, e, fun v q => by rw [d] at q; cases q⟩
  | .t _, ⟨o, e, _, d⟩ => ⟨o, e, fun v q => by rw [d] at q; cases q⟩
  | .s _ _, ⟨o, e, _, d⟩ => ⟨o, e, fun v q => by rw [d] at q; cases q⟩
section
variable {s : Shared} {X : Cx} {σ : L2.St} {H : Hp} {pins : List (Addr × Obj)}
theorem kn_ne (I : Inv X pins σ H s) {b a : Addr} {o : Obj} (hf : FpOk X pins H b) (h : X.K.lookup a = some o) : b ≠ a := fun e => by
  subst e
  have hb := I.mod.kin _ _ h
  obtain ⟨h0, _⟩ := I.ok.bs _ _ hb
  rcases hf.2.2.2.1 with q | q
  · exact I.ok.noex _ _ hb q
  · exact absurd (Heap.lt_size h0) (Nat.not_lt.mpr q)
theorem rd_ne {b a : Addr} {u : HO} (hf : H b = none) (h : Rd H a u) : b ≠ a := fun e => by
  subst e
  rcases h with h | ⟨o, h⟩ <;> (rw [hf] at h; cases h)
theorem fp_neL (I : Inv X pins σ H s) {b a : Addr} {xs : List V} (hf : FpOk X pins H b) (h : SqL X.K H a xs) : b ≠ a := by
  rcases h with h | ⟨o, _, _, h, _⟩
  · exact rd_ne hf.1 h
  · exact kn_ne I hf h
theorem fp_neT (I : Inv X pins σ H s) {b a : Addr} {xs : List V} (hf : FpOk X pins H b) (h : SqT X.K H a xs) : b ≠ a := by
  rcases h with h | ⟨o, _, _, h, _⟩
  · exact rd_ne hf.1 h
  · exact kn_ne I hf h
/-- what is drawn of it -/
theorem sc_draws (I : Inv X pins σ H s) (hc : X.calm = true) {it e : Addr} {i : Nat} {xs : List V} (hf : FpOk X pins H it) (hfe : FpOk X pins H e) (hne : e ≠ it) : ∀ {sc : Sc}, ScIt s.heap it i sc → ScAt X.K H sc xs →
    ∃ (fp : List Addr) (P : Nat → Value → Prop) (St : Nat → Heap → Prop), Draws X.prog X.w X.A.in1 it fp xs.length P St ∧ St i s.heap ∧ (∀ j h, St j h → ScIt h it j sc) ∧ (∀ j u, P j u → ∃ x, xs[j]? = some x ∧ RelV x u) ∧ it ∈ fp ∧ e ∉ fp ∧ ∀ b, FpOk X pins H b → b ≠ it → b ∉ fp
  | .l a, hit, hat => by
    obtain ⟨its, rv, p, hz⟩ := I.list hat
    have hl : xs.length = its.toArray.size := by rw [rv.length]; simp
    have na : ∀ b, FpOk X pins H b → b ≠ it → b ∉ [it, a] := fun b hb hn m => by
      rcases List.mem_cons.mp m with z | z
      · exact hn z
      · rcases List.mem_cons.1 z with z | z
        · exact fp_neL I hb hat z
        · cases z
    have D0 := Draws.list (prog := X.prog) (w := X.w) (A := X.A.in1) (I.ok.hd hc) it a (Ne.symm (fp_neL I hf hat)) its.toArray
    rw [← hl] at D0
    refine ⟨[it, a], _, _, D0, ⟨hit, p.isList⟩, fun j h st => st.1, fun j u hu => ?_, by simp, na e hfe hne, na⟩
    have hu' : its[j]? = some u := by simpa using hu
    cases q : xs[j]? with
    | none => rw [rv.none_of q] at hu'; cases hu'
    | some x =>
      obtain ⟨u2, h2, r2⟩ := rv.get q
      rw [hu'] at h2
      cases h2
      exact ⟨x, rfl, r2⟩
  | .t a, hit, hat => by
    obtain ⟨its, rv, p, hz⟩ := I.tuple hat
    have hl : xs.length = its.toArray.size := by rw [rv.length]; simp
    have na : ∀ b, FpOk X pins H b → b ≠ it → b ∉ [it, a] := fun b hb hn m => by
      rcases List.mem_cons.mp m with z | z
      · exact hn z
      · rcases List.mem_cons.1 z with z | z
        · exact fp_neT I hb hat z
        · cases z
    have D0 := Draws.tuple (prog := X.prog) (w := X.w) (A := X.A.in1) (I.ok.hd hc) it a (Ne.symm (fp_neT I hf hat)) its.toArray
    rw [← hl] at D0
    refine ⟨[it, a], _, _, D0, ⟨hit, p⟩, fun j h st => st.1, fun j u hu => ?_, by simp, na e hfe hne, na⟩
    have hu' : its[j]? = some u := by simpa using hu
    cases q : xs[j]? with
    | none => rw [rv.none_of q] at hu'; cases hu'
    | some x =>
      obtain ⟨u2, h2, r2⟩ := rv.get q
      rw [hu'] at h2
      cases h2
      exact ⟨x, rfl, r2⟩
  | .s x t, hit, hat => by
    have hat' : xs = x.cps.toList.map fun c => V.str ⟨#[c]⟩ := hat
    have hl : xs.length = x.cps.size := by rw [hat', List.length_map]; simp
    have na : ∀ b, FpOk X pins H b → b ≠ it → b ∉ [it] := fun b hb hn m => by
      rcases List.mem_cons.mp m with z | z
      · exact hn z
      · cases z
    have D0 := Draws.text (prog := X.prog) (w := X.w) (A := X.A.in1) (I.ok.hd hc) it x t
    rw [← hl] at D0
    refine ⟨[it], _, _, D0, hit, fun j h st => st, fun j u ⟨c, tk, hcx, hu⟩ => ?_, by simp, na e hfe hne, na⟩
    refine ⟨.str ⟨#[c]⟩, ?_, tk, hu⟩
    rw [hat', List.getElem?_map, Array.getElem?_toList, hcx]
    rfl
end
theorem scAt_inj {X : Cx} {pins : List (Addr × Obj)} {σ : L2.St} {H : Hp} {s : Shared} (I : Inv X pins σ H s) {xs ys : List V} : ∀ {sc : Sc}, ScAt X.K H sc xs → ScAt X.K H sc ys → xs = ys
  | .l _, a, b => I.list_inj a b
  | .t _, a, b => I.tuple_inj a b
  | .s _ _, a, b => Eq.trans a (Eq.symm b)
/-- enumerate -/
def ItE (K : PySem.W.Frag) (sc : Sc) : It :=
  ⟨fun i H => ∃ (xs : List V) (x : V), ScAt K H sc xs ∧ xs[i]? = some x, fun i H v H' => ∃ T x, v = .ref T ∧ H T = none ∧ H' = upd H T (.tup [.int (i : Nat), x]) ∧ ∀ xs, ScAt K H sc xs → xs[i]? = some x, fun i H => ∃ xs : List V, ScAt K H sc xs ∧ xs.length = i⟩
/-- a draw's pair: the new tuple at the heap's end, what the walk uses (ch) changed, all else as it was -/
theorem pair_made {X : Cx} {pins : List (Addr × Obj)} {σ : L2.St} {H : Hp} {s : Shared} {ch : List Addr} {x y : V} {u v : Value} {h2 : Heap} {tk : Nat} (I : Inv X pins σ H s) (away : ∀ b ∈ ch, FpOk X pins H b) (here : ∀ b ∈ ch, ∃ o, s.heap.get? b = some o) (ru : RelV x u) (rv : RelV y v)
    (at2 : h2.get? s.heap.objs.size = some { cls := .type "tuple", data := .seq #[u, v] }) (rest : ∀ b o, b ∉ ch → s.heap.get? b = some o → h2.get? b = some o) :
    Inv X pins σ (upd H s.heap.objs.size (.tup [x, y])) { s with heap := h2, toks := tk } ∧ ∀ b ∈ ch, upd H s.heap.objs.size (.tup [x, y]) b = none := by
  constructor
  · exact I.turnedNew (ch := ch) rest away (Nat.le_refl _) ⟨(by decide : 2 ≤ sizeLine), [u, v], .cons ru (.cons rv .nil), _, at2, rfl, _, rfl⟩
  · intro b m
    obtain ⟨o, e⟩ := here b m
    have lt : b < s.heap.objs.size := Heap.lt_size e
    exact (upd_ne (Nat.ne_of_lt lt)).trans (away b m).1
def EnSt (sc : Sc) (e it : Addr) (i : Nat) (h : Heap) : Prop := e ≠ it ∧ ScIt h it i sc ∧ ∃ last, IsEnum h e it ((i : Nat) : Int) last
theorem enSt_obj {sc : Sc} {e it : Addr} {i : Nat} {h : Heap} (z : EnSt sc e it i h) : ∀ b ∈ [e, it], ∃ o, h.get? b = some o ∧ ∀ v, o.data ≠ .cell v := by
  obtain ⟨_, k, last, en⟩ := z
  simp only [List.forall_mem_cons]
  exact ⟨⟨_, en, fun v z => nomatch z⟩, scIt_obj k, fun b m => nomatch m⟩
theorem turn_enumS {P : Program} {w : World} {K : PySem.W.Frag} {elts : List Expr} {kk : Nat} {tpos : Pos} (sc : Sc) (e it : Addr) : Turn P w K (.Tuple elts kk tpos) (ItE K sc) [e, it] e (EnSt sc e it) where
  mem := List.mem_cons_self
  obj := fun i h z => enSt_obj z
  keep := fun i h h2 ⟨ne, k, last, en⟩ same => ⟨ne, scIt_at (fun o q => same it (by simp) o q) k, last, same e (by simp) _ en⟩
  self := fun A i s Q E ⟨_, _, _, en⟩ q => wpAny_pyIter_enum en q
  done := fun X eP ew eK calm i pins s σ H E I away z stop => by
    subst eP ew eK
    have here := z
    obtain ⟨ne, k, last, en⟩ := z
    obtain ⟨xs, sq, len⟩ := stop
    subst len
    obtain ⟨fp, Pp, Stt, D, now, _⟩ := sc_draws I calm (away it (by simp)) (away e (by simp)) ne k sq
    have f := away it (by simp)
    exact wpAny_pyNext_enum_endD D en now fun h2 eb => ⟨rfl, I.turned (t' := s.toks) (fun b o n q => eb b o n q) f.1 f.2.1 f.2.2.2.1 f.2.2.2.2.1 f.2.2.2.2.2⟩
  item := fun X eP ew eK calm i pins s σ H E I away z go => by
    subst eP ew eK
    have here := enSt_obj z
    obtain ⟨ne, k, last, en⟩ := z
    obtain ⟨xs, x, sq, hx⟩ := go
    obtain ⟨fp, Pp, Stt, D, now, again, val, _, out, _⟩ := sc_draws I calm (away it (by simp)) (away e (by simp)) ne k sq
    refine wpAny_pyNext_enum_itemD D en now (List.getElem?_eq_some_iff.mp hx).1 ne out fun u h1 tk pu eo st1 new _ keep => ⟨_, rfl, wpAny_letOwnedTupleGo_enum (s := { s with heap := h1, toks := tk + 1 }) eo fun h2 en2 same => ?_⟩
    obtain ⟨x2, hx2, ru⟩ := val i u pu
    have ex : x2 = x := Option.some.inj (hx2.symm.trans hx)
    rw [ex] at ru
    have lt : e < s.heap.objs.size := Heap.lt_size en
    obtain ⟨J1, J2⟩ := pair_made (tk := tk + 1) I away (fun b m => (here b m).imp fun _ q => q.1) (x := .int (i : Nat)) ⟨tk, rfl⟩ ru ((same.2 _ (Nat.ne_of_gt lt)).trans new) fun b o n q => by
      rw [List.mem_cons, List.mem_singleton, not_or] at n
      exact (same.2 b n.1).trans (keep b o n.1 n.2 q)
    refine ⟨.ref s.heap.objs.size, _, J1, rfl, ⟨_, x, rfl, I.fresh, rfl, fun ys q => scAt_inj I q sq ▸ hx⟩, ⟨ne, scIt_at (fun o q => (same.2 it ne.symm).trans q) (again _ _ st1), u, ?_⟩, J2⟩
    have step : ((i + 1 : Nat) : Int) = (i : Int) + 1 := rfl
    rw [step]
    exact en2
/-- zip of two -/
def ItZ (K : PySem.W.Frag) (a b : Sc) : It :=
  ⟨fun i H => ∃ (xs ys : List V) (x y : V), ScAt K H a xs ∧ ScAt K H b ys ∧ xs[i]? = some x ∧ ys[i]? = some y,
    fun i H v H' => ∃ T x y, v = .ref T ∧ H T = none ∧ H' = upd H T (.tup [x, y]) ∧ (∀ xs, ScAt K H a xs → xs[i]? = some x) ∧ ∀ ys, ScAt K H b ys → ys[i]? = some y,
    fun i H => ∃ xs ys : List V, ScAt K H a xs ∧ ScAt K H b ys ∧ i ≤ xs.length ∧ i ≤ ys.length ∧ (i = xs.length ∨ i = ys.length)⟩
/-- the five cells of a zip lie apart -/
structure Ap5 (z TI TO i1 i2 : Addr) : Prop where
  a : TI ≠ z
  b : TO ≠ z
  c : TI ≠ TO
  d : TI ≠ i1
  e : TI ≠ i2
  f : TO ≠ i1
  g : TO ≠ i2
  h : z ≠ i1
  i : z ≠ i2
  j : i1 ≠ i2
/-- a zip at z: the iterators' tuple, the last pair's tuple, the two iterators -/
def ZpSt (a b : Sc) (z ti to i1 i2 : Addr) (i : Nat) (h : Heap) : Prop := (ScIt h i1 i a ∧ ScIt h i2 i b) ∧ (IsZip h z ti to .none ∧ IsTupOf2 h ti (.ref i1) (.ref i2)) ∧ ∃ x y, IsTupOf2 h to x y
theorem zpSt_obj {a b : Sc} {z ti to i1 i2 : Addr} {i : Nat} {h : Heap} (q : ZpSt a b z ti to i1 i2 i h) : ∀ c ∈ [z, ti, to, i1, i2], ∃ o, h.get? c = some o ∧ ∀ v, o.data ≠ .cell v := by
  obtain ⟨⟨k1, k2⟩, ⟨hz, hi⟩, x, y, ho⟩ := q
  simp only [List.forall_mem_cons]
  exact ⟨⟨_, hz, fun v z => nomatch z⟩, ⟨_, hi, fun v z => nomatch z⟩, ⟨_, ho, fun v z => nomatch z⟩, scIt_obj k1, scIt_obj k2, fun b m => nomatch m⟩
theorem turn_zipS {P : Program} {w : World} {K : PySem.W.Frag} {elts : List Expr} {kk : Nat} {tpos : Pos} {a b : Sc} {z ti to i1 i2 : Addr} (D : Ap5 z ti to i1 i2) : Turn P w K (.Tuple elts kk tpos) (ItZ K a b) [z, ti, to, i1, i2] z (ZpSt a b z ti to i1 i2) where
  mem := List.mem_cons_self
  obj := fun i h q => zpSt_obj q
  keep := fun i h h2 ⟨⟨k1, k2⟩, ⟨hz, hi⟩, x, y, ho⟩ same => ⟨⟨scIt_at (fun o q => same i1 (by simp) o q) k1, scIt_at (fun o q => same i2 (by simp) o q) k2⟩, ⟨same z (by simp) _ hz, same ti (by simp) _ hi⟩, x, y, same to (by simp) _ ho⟩
  self := fun A i s Q E q k => wpAny_pyIter_zip q.2.1.1 k
  done := fun X eP ew eK calm i pins s σ H E I away q stop => by
    subst eP ew eK
    obtain ⟨⟨k1, k2⟩, ⟨hz, hi⟩, x, y, ho⟩ := q
    obtain ⟨xs, ys, sx, sy, lx, ly, end_⟩ := stop
    obtain ⟨f1, P1, S1, D1, n1, _, _, in1, o1, far1⟩ := sc_draws I calm (away i1 (by simp)) (away z (by simp)) D.h k1 sx
    obtain ⟨f2, P2, S2, D2, n2, _, _, in2, o2, far2⟩ := sc_draws I calm (away i2 (by simp)) (away z (by simp)) D.i k2 sy
    have sep : ZipSep2 z ti to i1 i2 f1 f2 := ⟨D.a, D.b, D.c, D.d, in1, o1, far1 to (away to (by simp)) D.f, D.e, in2, o2, far2 to (away to (by simp)) D.g, far2 i1 (away i1 (by simp)) D.j, far1 i2 (away i2 (by simp)) D.j.symm⟩
    refine wpAny_pyNext_zipD2_end sep D1 D2 hz hi ho n1 n2 lx ly end_ fun h2 tk keep => ⟨rfl, I.turnedL (ch := [z, ti, to, i1, i2]) (fun c o n e => ?_) away⟩
    simp only [List.mem_cons, List.not_mem_nil, or_false, not_or] at n
    exact keep c o n.1 n.2.2.1 n.2.2.2.1 n.2.2.2.2 e
  item := fun X eP ew eK calm i pins s σ H E I away q go => by
    subst eP ew eK
    have here := zpSt_obj q
    obtain ⟨⟨k1, k2⟩, ⟨hz, hi⟩, x0, y0, ho⟩ := q
    obtain ⟨xs, ys, x, y, sx, sy, gx, gy⟩ := go
    obtain ⟨f1, P1, S1, D1, n1, a1, v1, in1, o1, far1⟩ := sc_draws I calm (away i1 (by simp)) (away z (by simp)) D.h k1 sx
    obtain ⟨f2, P2, S2, D2, n2, a2, v2, in2, o2, far2⟩ := sc_draws I calm (away i2 (by simp)) (away z (by simp)) D.i k2 sy
    have sep : ZipSep2 z ti to i1 i2 f1 f2 := ⟨D.a, D.b, D.c, D.d, in1, o1, far1 to (away to (by simp)) D.f, D.e, in2, o2, far2 to (away to (by simp)) D.g, far2 i1 (away i1 (by simp)) D.j, far1 i2 (away i2 (by simp)) D.j.symm⟩
    refine wpAny_pyNext_zipD2_item sep D1 D2 hz hi ho n1 n2 (List.getElem?_eq_some_iff.mp gx).1 (List.getElem?_eq_some_iff.mp gy).1 fun u v h1 tk pu pv z1 o1' s1 s2 new _ keep => ⟨_, rfl, wpAny_letOwnedTupleGo_zip (s := { s with heap := h1, toks := tk }) z1 fun h2 z2 same => ?_⟩
    obtain ⟨x2, gx2, ru⟩ := v1 i u pu
    obtain ⟨y2, gy2, rv⟩ := v2 i v pv
    rw [Option.some.inj (gx2.symm.trans gx)] at ru
    rw [Option.some.inj (gy2.symm.trans gy)] at rv
    have lt : z < s.heap.objs.size := Heap.lt_size hz
    obtain ⟨J1, J2⟩ := pair_made (tk := tk) I away (fun b m => (here b m).imp fun _ q => q.1) ru rv ((same.2 _ (Nat.ne_of_gt lt)).trans new) fun c o n e => by
      simp only [List.mem_cons, List.not_mem_nil, or_false, not_or] at n
      exact (same.2 c n.1).trans (keep c o n.1 n.2.2.1 n.2.2.2.1 n.2.2.2.2 e)
    exact ⟨.ref s.heap.objs.size, _, J1, rfl, ⟨_, x, y, rfl, I.fresh, rfl, fun l q => scAt_inj I q sx ▸ gx, fun l q => scAt_inj I q sy ▸ gy⟩,
      ⟨⟨scIt_at (fun o q => (same.2 _ D.h.symm).trans q) (a1 _ _ s1), scIt_at (fun o q => (same.2 _ D.i.symm).trans q) (a2 _ _ s2)⟩, ⟨z2, (same.2 _ D.a).trans (keep _ _ D.a D.c D.d D.e hi)⟩, u, v, (same.2 _ D.b).trans o1'⟩, J2⟩
end MP
end
section
set_option Elab.async false
set_option linter.all false
set_option autoImplicit false
set_option maxRecDepth 100000
set_option maxHeartbeats 4000001
namespace MP
open PySem.Spec PyProof.Rows L2 PySem

/-- an iterator that gives the items, while the state is ok -/
structure Walk (K : PySem.W.Frag) (H0 : Hp) (J : It) (items : List PyData) (ok : L2.St → List Addr → Hp → Rho → Prop) : Prop where
  go : ∀ {σ S H ρ i}, ok σ S H ρ → i < items.length → J.go i H
  stop : ∀ {σ S H ρ}, ok σ S H ρ → J.stop items.length H
  yld : ∀ {σ S H ρ i x H' d}, EnvOk K H0 S σ H ρ → ok σ S H ρ → J.yld i H x H' → items[i]? = some d → Same H H' ∧ Good K S H' d x
  evo : ∀ {σ S H ρ σ' S' H' ρ'}, EnvOk K H0 S σ H ρ → Evo K H0 σ S H ρ σ' S' H' ρ' → ok σ S H ρ → ok σ' S' H' ρ'
def ScOk (K : PySem.W.Frag) : Sc → List PyData → L2.St → List Addr → Hp → Rho → Prop
  | .l a, ds, σ, S, H, ρ => ∃ xs, ((Rd H a (.lst xs) ∧ ¬ MA σ ρ a) ∨ KL K a xs) ∧ GoodL K S H ds xs
  | .t a, ds, _, S, H, _ => ∃ xs, SqT K H a xs ∧ GoodL K S H ds xs
  | .s x _, ds, _, _, _, _ => ds = chars x
theorem lsq {K : PySem.W.Frag} {H : Hp} {a : Addr} {xs : List V} {P : Prop} (h : (Rd H a (.lst xs) ∧ P) ∨ KL K a xs) : SqL K H a xs := Ls.sq (h.imp (fun h => h.1) fun h => h)
section
variable {K : PySem.W.Frag} {H0 : Hp} {σ σ' : L2.St} {S S' : List Addr} {H H' : Hp} {ρ ρ' : Rho}
theorem chars_good (x : Str) : GoodL K S H (chars x) (x.cps.toList.map fun c => V.str ⟨#[c]⟩) := by
  unfold chars
  generalize x.cps.toList = l
  induction l with
  | nil => exact .nil
  | cons c r ih => exact .cons (by simp only [Good]) ih
theorem ScOk.at : ∀ {sc : Sc} {ds : List PyData}, ScOk K sc ds σ S H ρ → ∃ xs, ScAt K H sc xs ∧ GoodL K S H ds xs
  | .l _, _, ⟨xs, h, g⟩ => ⟨xs, lsq h, g⟩
  | .t _, _, ⟨xs, h, g⟩ => ⟨xs, h, g⟩
  | .s x _, _, h => ⟨_, rfl, by
      have h' : _ = chars x := h
      rw [h']
      exact chars_good x⟩
theorem ScOk.evo (E : EnvOk K H0 S σ H ρ) (v : Evo K H0 σ S H ρ σ' S' H' ρ') : ∀ {sc : Sc} {ds : List PyData}, ScOk K sc ds σ S H ρ → ScOk K sc ds σ' S' H' ρ'
  | .l a, ds, ⟨xs, .inr h, g⟩ => ⟨xs, .inr h, v.goodL E g⟩
  | .l a, ds, ⟨xs, .inl ⟨h, n⟩, g⟩ => by
    refine ⟨xs, .inl ⟨?_, fun m => ?_⟩, v.goodL E g⟩
    · rcases h with h | ⟨o, h⟩
      · exact .inl (v.keep _ _ h n)
      · exact .inr ⟨o, v.keep _ _ h n⟩
    · rcases v.mono a m with q | q
      · exact n q
      · rcases h with h | ⟨o, h⟩ <;> (rw [h] at q; cases q)
  | .t a, ds, ⟨xs, h, g⟩ => ⟨xs, (v.chg E).tup h, v.goodL E g⟩
  | .s _ _, _, h => h
theorem get_iff {ds : List PyData} {xs : List V} (g : GoodL K S H ds xs) {i : Nat} (h : i < ds.length) : ∃ x, xs[i]? = some x := by
  have : i < xs.length := by rw [g.length]; exact h
  exact ⟨xs[i], List.getElem?_eq_getElem this⟩
theorem walk_l (a : Addr) (ds : List PyData) : Walk K H0 (Itl K a) ds (ScOk K (.l a) ds) where
  go := fun ⟨xs, h, g⟩ hi => by
    obtain ⟨x, hx⟩ := get_iff g hi
    exact ⟨xs, x, lsq h, hx⟩
  stop := fun ⟨xs, h, g⟩ => ⟨xs, lsq h, by rw [g.length]; exact Nat.le_refl _⟩
  yld := fun E ⟨xs, h, g⟩ hy hd => by
    obtain ⟨e, hx⟩ := hy
    subst e
    obtain ⟨x', hx', gx⟩ := g.get hd
    rw [hx xs (lsq h)] at hx'
    cases hx'
    exact ⟨Same.refl _, gx⟩
  evo := fun E v h => h.evo E v
theorem walk_t (a : Addr) (ds : List PyData) : Walk K H0 (Itt K a) ds (ScOk K (.t a) ds) where
  go := fun ⟨xs, h, g⟩ hi => by
    obtain ⟨x, hx⟩ := get_iff g hi
    exact ⟨xs, x, h, hx⟩
  stop := fun ⟨xs, h, g⟩ => ⟨xs, h, by rw [g.length]; exact Nat.le_refl _⟩
  yld := fun E ⟨xs, h, g⟩ hy hd => by
    obtain ⟨e, hx⟩ := hy
    subst e
    obtain ⟨x', hx', gx⟩ := g.get hd
    rw [hx xs h] at hx'
    cases hx'
    exact ⟨Same.refl _, gx⟩
  evo := fun E v h => h.evo E v
theorem chars_len (x : Str) : (chars x).length = x.cps.size := by
  unfold chars
  rw [(List.length_map), Array.length_toList]
theorem walk_s (x : Str) : Walk K H0 (Its x) (chars x) (fun _ _ _ _ => True) where
  go := fun _ hi => by
    rw [chars_len] at hi
    exact hi
  stop := fun _ => by
    rw [chars_len]
    exact Nat.le_refl _
  yld := fun E _ hy hd => by
    obtain ⟨e, c, hc, hx⟩ := hy
    subst e hx
    unfold chars at hd
    rw [List.getElem?_map, Array.getElem?_toList, hc] at hd
    cases hd
    exact ⟨Same.refl _, by simp only [Good]⟩
  evo := fun _ _ h => h
theorem rangeD_len (lo : Int) (n : Nat) : (rangeD lo n).length = n := by
  unfold rangeD
  rw [(List.length_map), List.length_range]
theorem walk_r (lo : Int) (n : Nat) : Walk K H0 (Itr lo n) (rangeD lo n) (fun _ _ _ _ => True) where
  go := fun _ hi => by
    rw [rangeD_len] at hi
    exact hi
  stop := fun _ => by
    rw [rangeD_len]
    exact Nat.le_refl _
  yld := fun {σ S H ρ i x H' d} E _ hy hd => by
    obtain ⟨e, hx⟩ := hy
    subst e hx
    have hi : i < n := by
      have := (List.getElem?_eq_some_iff.mp hd).1
      rw [rangeD_len] at this
      exact this
    unfold rangeD at hd
    rw [List.getElem?_map, List.getElem?_range hi] at hd
    cases hd
    exact ⟨Same.refl _, by simp only [Good]⟩
  evo := fun _ _ h => h
theorem enumD_get : ∀ (ds : List PyData) (k i : Nat) (d : PyData), (enumD k ds)[i]? = some d → ∃ x, ds[i]? = some x ∧ d = .tuple [.int ((k + i : Nat) : Int), x]
  | [], _, _, _, h => by simp [enumD] at h
  | x :: r, k, 0, d, h => by
    simp only [enumD, List.getElem?_cons_zero, Option.some.injEq] at h
    exact ⟨x, rfl, h.symm⟩
  | x :: r, k, i + 1, d, h => by
    simp only [enumD, List.getElem?_cons_succ] at h
    obtain ⟨y, hy, e⟩ := enumD_get r (k + 1) i d h
    refine ⟨y, by simpa using hy, ?_⟩
    rw [e]
    congr 3
    omega
theorem enumD_len : ∀ (ds : List PyData) (k : Nat), (enumD k ds).length = ds.length
  | [], _ => rfl
  | x :: r, k => by
    simp only [enumD, List.length_cons, enumD_len r]
theorem zipD_get : ∀ (ds es : List PyData) (i : Nat) (d : PyData), (zipD ds es)[i]? = some d → ∃ x y, ds[i]? = some x ∧ es[i]? = some y ∧ d = .tuple [x, y]
  | [], _, _, _, h => by simp [zipD] at h
  | _ :: _, [], _, _, h => by simp [zipD] at h
  | x :: r, y :: q, 0, d, h => by
    simp only [zipD, List.getElem?_cons_zero, Option.some.injEq] at h
    exact ⟨x, y, rfl, rfl, h.symm⟩
  | x :: r, y :: q, i + 1, d, h => by
    simp only [zipD, List.getElem?_cons_succ] at h
    obtain ⟨a, b, h1, h2, e⟩ := zipD_get r q i d h
    exact ⟨a, b, by simpa using h1, by simpa using h2, e⟩
theorem zipD_len : ∀ (ds es : List PyData), (zipD ds es).length = min ds.length es.length
  | [], es => by simp [zipD]
  | _ :: _, [] => by simp [zipD]
  | x :: r, y :: q => by
    simp only [zipD, List.length_cons, zipD_len r q]
    omega
theorem tup2_good {T : Addr} {x y : V} {dx dy : PyData} (hT : H T = none) (gx : Good K S H dx x) (gy : Good K S H dy y) : Same H (upd H T (.tup [x, y])) ∧ Good K S (upd H T (.tup [x, y])) (.tuple [dx, dy]) (.ref T) := by
  refine ⟨same_upd hT, ?_⟩
  simp only [Good]
  exact ⟨T, [x, y], rfl, .inl (.inl upd_same), .cons (gx.same (same_upd hT)) (.cons (gy.same (same_upd hT)) .nil)⟩
theorem walk_e (sc : Sc) (ds : List PyData) : Walk K H0 (ItE K sc) (enumD 0 ds) (ScOk K sc ds) where
  go := fun h hi => by
    obtain ⟨xs, hx, g⟩ := h.at
    rw [enumD_len] at hi
    obtain ⟨x, hx'⟩ := get_iff g hi
    exact ⟨xs, x, hx, hx'⟩
  stop := fun h => by
    obtain ⟨xs, hx, g⟩ := h.at
    exact ⟨xs, hx, by rw [enumD_len, g.length]⟩
  yld := fun {σ S H ρ i x H' d} E h hy hd => by
    obtain ⟨xs, hx, g⟩ := h.at
    obtain ⟨T, y, e1, hT, e2, hy⟩ := hy
    obtain ⟨dx, hdx, e3⟩ := enumD_get ds 0 i d hd
    obtain ⟨y', hy', gy⟩ := g.get hdx
    rw [hy xs hx] at hy'
    cases hy'
    subst e1 e2 e3
    rw [Nat.zero_add]
    exact tup2_good hT (by simp only [Good]) gy
  evo := fun E v h => h.evo E v
theorem walk_z (a b : Sc) (ds es : List PyData) : Walk K H0 (ItZ K a b) (zipD ds es) (fun σ S H ρ => ScOk K a ds σ S H ρ ∧ ScOk K b es σ S H ρ) where
  go := fun h hi => by
    obtain ⟨xs, hx, g⟩ := h.1.at
    obtain ⟨ys, hy, g2⟩ := h.2.at
    rw [zipD_len] at hi
    obtain ⟨x, hx'⟩ := get_iff g (Nat.lt_of_lt_of_le hi (Nat.min_le_left _ _))
    obtain ⟨y, hy'⟩ := get_iff g2 (Nat.lt_of_lt_of_le hi (Nat.min_le_right _ _))
    exact ⟨xs, ys, x, y, hx, hy, hx', hy'⟩
  stop := fun h => by
    obtain ⟨xs, hx, g⟩ := h.1.at
    obtain ⟨ys, hy, g2⟩ := h.2.at
    refine ⟨xs, ys, hx, hy, ?_⟩
    rw [zipD_len, g.length, g2.length]
    omega
  yld := fun {σ S H ρ i x H' d} E h hy hd => by
    obtain ⟨xs, hx, g⟩ := h.1.at
    obtain ⟨ys, hys, g2⟩ := h.2.at
    obtain ⟨T, y, z, e1, hT, e2, hy1, hy2⟩ := hy
    obtain ⟨dx, dy, hdx, hdy, e3⟩ := zipD_get ds es i d hd
    obtain ⟨y', hy', gy⟩ := g.get hdx
    rw [hy1 xs hx] at hy'
    cases hy'
    obtain ⟨z', hz', gz⟩ := g2.get hdy
    rw [hy2 ys hys] at hz'
    cases hz'
    subst e1 e2 e3
    exact tup2_good hT gy gz
  evo := fun E v h => ⟨h.1.evo E v, h.2.evo E v⟩
/-! ### locking -/
theorem lock_get {i : Nat} {t : Bool} {d : PyData} (hi : ρ[i]? = some (.mu t d)) {j : Nat} {s : Sl} (h : (ρ.set i (.lk t d))[j]? = some s) : (j = i ∧ s = .lk t d) ∨ (j ≠ i ∧ ρ[j]? = some s) := set_get h
theorem EnvOk.lock (E : EnvOk K H0 S σ H ρ) {i : Nat} {t : Bool} {d : PyData} (hi : ρ[i]? = some (.mu t d)) : Evo K H0 σ S H ρ σ S H (ρ.set i (.lk t d)) := by
  have kind : ∀ j s, (ρ.set i (.lk t d))[j]? = some s → isMu s = true → ∃ s', ρ[j]? = some s' ∧ isMu s' = true := fun j s h m => by
    rcases set_get h with ⟨e, _⟩ | ⟨_, h⟩
    · subst e; exact ⟨_, hi, rfl⟩
    · exact ⟨s, h, m⟩
  refine ⟨fun _ _ h _ => h, fun _ h => .inl h, fun _ h _ => h, fun b ⟨j, t', d', h, hs⟩ => ?_, fun b ⟨j, s, h, hm, hs⟩ => .inl (let ⟨s', h1, h2⟩ := kind j s h hm; ⟨j, s', h1, h2, hs⟩), fun j s h m => ⟨rfl, ?_⟩, fun _ h => h, fun j t' d' h => ⟨?_, rfl⟩, ?_⟩
  · rcases set_get h with ⟨_, e⟩ | ⟨_, h⟩
    · cases e
    · exact .inl ⟨j, t', d', h, hs⟩
  · by_cases e : j = i
    · subst e
      rw [hi] at h
      cases h
      refine ⟨.lk t d, List.getElem?_set_self (List.getElem?_eq_some_iff.mp hi).1, ?_⟩
      cases t with
      | true => cases m
      | false => rfl
    · exact ⟨s, by rw [List.getElem?_set_ne (Ne.symm e)]; exact h, m⟩
  · have hji : j ≠ i := fun e => by
      subst e
      rw [hi] at h
      cases h
    rw [List.getElem?_set_ne (Ne.symm hji)]
    exact h
  · refine ⟨by rw [List.length_set]; exact E.len, fun j d' h => ?_, fun j t' d' h => ?_, fun j k s t b hjk h1 h2 m1 m2 q1 q2 => ?_, E.dom, E.ent⟩
    · rcases set_get h with ⟨_, e⟩ | ⟨_, h⟩
      · cases e
      · exact E.sh j d' h
    · rcases h with h | h
      · rcases set_get h with ⟨_, e⟩ | ⟨_, h⟩
        · cases e
        · exact E.mu j t' d' (.inl h)
      · rcases set_get h with ⟨e1, e⟩ | ⟨_, h⟩
        · cases e
          subst e1
          exact E.mu j _ _ (.inl hi)
        · exact E.mu j t' d' (.inr h)
    · obtain ⟨s', hs', ms'⟩ := kind j s h1 m1
      obtain ⟨t', ht', mt'⟩ := kind k t h2 m2
      exact E.apart j k s' t' b hjk hs' ht' ms' mt' q1 q2
theorem lock_evo (E : EnvOk K H0 S σ H ρ) (os : List Opd) : Evo K H0 σ S H ρ σ S H (lockO ρ os) := by
  unfold lockO
  split
  · split
    · rename_i hi
      exact E.lock hi
    · exact Evo.refl E
  · exact Evo.refl E
/-- behind the walk: the locked slot is owned again -/
theorem unlock_evo (E : EnvOk K H0 S σ H ρ) {os : List Opd} (v : Evo K H0 σ S H (lockO ρ os) σ' S' H' ρ') {ρ2 : Rho} (h : unlockO ρ ρ' os = some ρ2) : Evo K H0 σ S H ρ σ' S' H' ρ2 := by
  have triv : lockO ρ os = ρ → ρ' = ρ2 → Evo K H0 σ S H ρ σ' S' H' ρ2 := fun e1 e2 => by
    rw [e1] at v
    rw [← e2]
    exact v
  unfold unlockO at h
  split at h
  · rename_i i
    cases hi : ρ[i]? with
    | none =>
      simp only [hi, Option.some.injEq] at h
      exact triv (by simp only [lockO, hi]) h
    | some s =>
      cases s with
      | mu t d =>
        simp only [hi] at h
        have el : lockO ρ [.slot i] = ρ.set i (.lk t d) := by simp only [lockO, hi]
        rw [el] at v
        have hlt : i < ρ.length := (List.getElem?_eq_some_iff.mp hi).1
        obtain ⟨hl, hσ⟩ := v.lk i t d (List.getElem?_set_self hlt)
        simp only [hl, Option.some.injEq] at h
        subst h
        have v0 := (E.lock hi).trans v
        have kind : ∀ j s, (ρ'.set i (.mu t d))[j]? = some s → isMu s = true → ∃ s', ρ'[j]? = some s' ∧ isMu s' = true := fun j s h m => by
          rcases set_get h with ⟨e, _⟩ | ⟨_, h⟩
          · subst e; exact ⟨_, hl, rfl⟩
          · exact ⟨s, h, m⟩
        refine ⟨v0.keep, v0.sub, v0.old, fun b ⟨j, t', d', h, hs⟩ => ?_, fun b ⟨j, s, h, hm, hs⟩ => let ⟨s', h1, h2⟩ := kind j s h hm; v0.ow b ⟨j, s', h1, h2, hs⟩, fun j s h m => ?_, v0.there, fun j t' d' h => ?_, ?_⟩
        · rcases set_get h with ⟨e1, e⟩ | ⟨_, h⟩
          · subst e1
            cases e
            rw [hσ] at hs
            exact .inl ⟨j, _, _, hi, hs⟩
          · exact v0.mono b ⟨j, t', d', h, hs⟩
        · obtain ⟨q1, s', q2, q3⟩ := v0.io j s h m
          refine ⟨q1, ?_⟩
          by_cases e : j = i
          · subst e
            rw [hl] at q2
            cases q2
            refine ⟨.mu t d, List.getElem?_set_self (List.getElem?_eq_some_iff.mp hl).1, ?_⟩
            cases t with
            | true => cases q3
            | false => rfl
          · exact ⟨s', by rw [List.getElem?_set_ne (Ne.symm e)]; exact q2, q3⟩
        · have hji : j ≠ i := fun e => by
            subst e
            rw [hi] at h
            cases h
          obtain ⟨q1, q2⟩ := v0.lk j t' d' h
          rw [List.getElem?_set_ne (Ne.symm hji)]
          exact ⟨q1, q2⟩
        · have E' := v.env
          refine ⟨by rw [List.length_set]; exact E'.len, fun j d' h => ?_, fun j t' d' h => ?_, fun j k s t b hjk h1 h2 m1 m2 q1 q2 => ?_, E'.dom, E'.ent⟩
          · rcases set_get h with ⟨_, e⟩ | ⟨_, h⟩
            · cases e
            · exact E'.sh j d' h
          · rcases h with h | h
            · rcases set_get h with ⟨e1, e⟩ | ⟨_, h⟩
              · cases e
                subst e1
                exact E'.mu j _ _ (.inr hl)
              · exact E'.mu j t' d' (.inl h)
            · rcases set_get h with ⟨_, e⟩ | ⟨_, h⟩
              · cases e
              · exact E'.mu j t' d' (.inr h)
          · obtain ⟨s', hs', ms'⟩ := kind j s h1 m1
            obtain ⟨t', ht', mt'⟩ := kind k t h2 m2
            exact E'.apart j k s' t' b hjk hs' ht' ms' mt' q1 q2
      | no =>
        simp only [hi, Option.some.injEq] at h
        exact triv (by simp only [lockO, hi]) h
      | sh _ =>
        simp only [hi, Option.some.injEq] at h
        exact triv (by simp only [lockO, hi]) h
      | lk _ _ =>
        simp only [hi, Option.some.injEq] at h
        exact triv (by simp only [lockO, hi]) h
  · rename_i hne
    simp only [(Option.some.injEq)] at h
    refine triv ?_ h
    match os, hne with
    | [], _ => rfl
    | [.val _], _ => rfl
    | [.slot i], hne => exact (hne i rfl).elim
    | .val _ :: _ :: _, _ => rfl
    | .slot _ :: _ :: _, _ => rfl
end
end MP
end
section
set_option Elab.async false
set_option linter.all false
set_option autoImplicit false
set_option maxRecDepth 100000
set_option maxHeartbeats 4000001
namespace MP
open PySem.Spec PyProof.Rows L2 PySem

/-! ### a slot is set -/
section
variable {K : PySem.W.Frag} {H0 : Hp} {σ σ' : L2.St} {S S' : List Addr} {H H' : Hp} {ρ ρ' : Rho}
theorem setSl_eq {i : Nat} {s : Sl} (h : setSl i s ρ = some ρ') : ρ' = ρ.set i s ∧ i < ρ.length ∧ (∀ t d, ρ[i]? ≠ some (.lk t d)) ∧ ∀ d, ρ[i]? ≠ some (.mu false d) := by
  unfold setSl at h
  split at h
  · cases h
  · cases h
  · rename_i x h1 h2 hx
    cases h
    refine ⟨rfl, (List.getElem?_eq_some_iff.mp hx).1, fun t d e => ?_, fun d e => ?_⟩
    · rw [hx] at e
      cases e
      exact h2 _ _ rfl
    · rw [hx] at e
      cases e
      exact h1 _ rfl
  · cases h
/-- a slot that is forgotten or shared anew: the state's slot i is any, the new slot is not owned -/
theorem EnvOk.set (E : EnvOk K H0 S σ H ρ) {i : Nat} {s : Sl} {o : Option V} (hi : i < ρ.length) (hl : ∀ t d, ρ[i]? ≠ some (.lk t d)) (hm : ∀ d, ρ[i]? ≠ some (.mu false d)) (hs : (s = .no) ∨ ∃ d v, s = .sh d ∧ o = some v ∧ Good K S H d v) : Evo K H0 σ S H ρ (σ.set i o) S H (ρ.set i s) := by
  have ns : isMu s = false := by
    rcases hs with e | ⟨d, v, e, _⟩
    · rw [e]; rfl
    · rw [e]; rfl
  have get : ∀ j x, (ρ.set i s)[j]? = some x → isMu x = true → j ≠ i ∧ ρ[j]? = some x := fun j x h m => by
    rcases set_get h with ⟨_, e⟩ | q
    · rw [e, ns] at m; cases m
    · exact q
  have sg : ∀ {j : Nat}, j ≠ i → (σ.set i o)[j]? = σ[j]? := fun h => List.getElem?_set_ne (Ne.symm h)
  have hi' : i < σ.length := E.len ▸ hi
  refine ⟨fun _ _ h _ => h, fun _ h => .inl h, fun _ h _ => h, fun a ⟨j, t, d, h, hs⟩ => ?_, fun a ⟨j, x, h, m, hs⟩ => ?_, fun j x h m => ?_, fun _ h => h, fun j t d h => ?_, ?_⟩
  · obtain ⟨n, h⟩ := get j _ h rfl
    rw [sg n] at hs
    exact .inl ⟨j, t, d, h, hs⟩
  · obtain ⟨n, h⟩ := get j _ h m
    rw [sg n] at hs
    exact .inl ⟨j, x, h, m, hs⟩
  · have n : j ≠ i := fun e => by
      subst e
      cases x with
      | no => cases m
      | sh _ => cases m
      | lk t d => exact hl t d h
      | mu t d =>
        cases t with
        | true => cases m
        | false => exact hm d h
    exact ⟨sg n, x, by rw [List.getElem?_set_ne (Ne.symm n)]; exact h, m⟩
  · have n : j ≠ i := fun e => hl t d (e ▸ h)
    rw [List.getElem?_set_ne (Ne.symm n), sg n]
    exact ⟨h, rfl⟩
  · refine ⟨by rw [List.length_set, List.length_set]; exact E.len, fun j d h => ?_, fun j t d h => ?_, fun j k x t a hjk h1 h2 m1 m2 q1 q2 => ?_, E.dom, E.ent⟩
    · rcases set_get h with ⟨ej, e⟩ | ⟨n, h⟩
      · subst ej
        rcases hs with e' | ⟨d', v, e', eo, g⟩
        · rw [e'] at e; cases e
        · rw [e'] at e
          cases e
          exact ⟨v, by rw [List.getElem?_set_self hi', eo], g⟩
      · obtain ⟨v, hv, g⟩ := E.sh j d h
        exact ⟨v, by rw [sg n]; exact hv, g⟩
    · have : j ≠ i ∧ (ρ[j]? = some (.mu t d) ∨ ρ[j]? = some (.lk t d)) := by
        rcases h with h | h
        · obtain ⟨n, h⟩ := get j _ h rfl
          exact ⟨n, .inl h⟩
        · obtain ⟨n, h⟩ := get j _ h rfl
          exact ⟨n, .inr h⟩
      obtain ⟨a, ha, r⟩ := E.mu j t d this.2
      exact ⟨a, by rw [sg this.1]; exact ha, r⟩
    · obtain ⟨n1, h1⟩ := get j _ h1 m1
      obtain ⟨n2, h2⟩ := get k _ h2 m2
      rw [sg n1] at q1
      rw [sg n2] at q2
      exact E.apart j k x t a hjk h1 h2 m1 m2 q1 q2
theorem set_sh (E : EnvOk K H0 S σ H ρ) {i : Nat} {d : PyData} {v : V} (h : setSl i (.sh d) ρ = some ρ') (g : Good K S H d v) : Evo K H0 σ S H ρ (σ.set i (some v)) S H ρ' := by
  obtain ⟨e, hi, hl, hm⟩ := setSl_eq h
  subst e
  exact E.set hi hl hm (.inr ⟨d, v, rfl, rfl, g⟩)
theorem set_no (E : EnvOk K H0 S σ H ρ) {i : Nat} {o : Option V} (h : setSl i .no ρ = some ρ') : Evo K H0 σ S H ρ (σ.set i o) S H ρ' := by
  obtain ⟨e, hi, hl, hm⟩ := setSl_eq h
  subst e
  exact E.set hi hl hm (.inl rfl)
end
/-! ### targets -/
/-- the target is bound to a datum -/
def tB (K : PySem.W.Frag) (H0 : Hp) (f : PyData → Rho → Option Rho) (sl : List Nat) : TG := fun v σ H Q => ∃ S ρ d ρ', EnvOk K H0 S σ H ρ ∧ Good K S H d v ∧ f d ρ = some ρ' ∧ ∀ σ', Evo K H0 σ S H ρ σ' S H ρ' → (∀ i, i ∉ sl → σ'[i]? = σ[i]?) → σ'.length = σ.length → Q σ' H
def tBs (K : PySem.W.Frag) (H0 : Hp) (f : List PyData → Rho → Option Rho) (sl : List Nat) : TGs := fun vs σ H Q => ∃ S ρ ds ρ', EnvOk K H0 S σ H ρ ∧ GoodL K S H ds vs ∧ f ds ρ = some ρ' ∧ ∀ σ', Evo K H0 σ S H ρ σ' S H ρ' → (∀ i, i ∉ sl → σ'[i]? = σ[i]?) → σ'.length = σ.length → Q σ' H
theorem PG.weak {X : Cx} {e : Expr} {t t' : TG} (h : PG X e t) (w : ∀ v σ H Q, t' v σ H Q → t v σ H Q) : PG X e t' := ⟨fun pins s σ H v u Q I r q => h.run pins s σ H v u Q I r (w v σ H Q q)⟩
theorem PGs.weak {X : Cx} {e : List Expr} {t t' : TGs} (h : PGs X e t) (w : ∀ v σ H Q, t' v σ H Q → t v σ H Q) : PGs X e t' := ⟨fun pins s σ H v u Q I r q => h.run pins s σ H v u Q I r (w v σ H Q q)⟩
mutual
def chT (N : List Str) (sto : Str → Bool) : Tg → Expr → Bool
  | .n i, .Name x _ => decide (N[i]? = some x) && sto x
  | .t ts, .Tuple es _ _ => chTs N sto ts es
  | _, _ => false
def chTs (N : List Str) (sto : Str → Bool) : List Tg → List Expr → Bool
  | [], [] => true
  | t :: ts, e :: es => chT N sto t e && chTs N sto ts es
  | _, _ => false
end
theorem chT_plain {N : List Str} {sto : Str → Bool} {t : Tg} {e : Expr} (h : chT N sto t e = true) (env : Env) (es : List Expr) : assignEach (e :: es) env = (false, assign e env) :: assignEach es env := by
  cases t with
  | n i => cases e with
    | Name x p => simp only [assignEach]
    | _ => simp only [chT] at h; cases h
  | t ts => cases e with
    | Tuple es' k p => simp only [assignEach]
    | _ => simp only [chT] at h; cases h
theorem chTs_len {N : List Str} {sto : Str → Bool} (env : Env) : ∀ {ts : List Tg} {es : List Expr}, chTs N sto ts es = true → (assignEach es env).length = ts.length ∧ (assignEach es env).findIdx? (·.1) = none
  | [], [], _ => ⟨by simp only [assignEach]; rfl, by simp only [assignEach]; rfl⟩
  | [], _ :: _, h => by simp only [chTs] at h; cases h
  | _ :: _, [], h => by simp only [chTs] at h; cases h
  | t :: ts, e :: es, h => by
    simp only [chTs, Bool.and_eq_true] at h
    obtain ⟨h1, h2⟩ := chTs_len env h.2
    rw [chT_plain h.1]
    refine ⟨by rw [List.length_cons, List.length_cons, h1], ?_⟩
    rw [List.findIdx?_cons, h2]
    rfl
section
variable {X : Cx} {H0 : Hp}
theorem bindTgs_len : ∀ {ts : List Tg} {ds : List PyData} {ρ ρ' : Rho}, bindTgs ts ds ρ = some ρ' → ds.length = ts.length
  | [], [], _, _, _ => rfl
  | [], _ :: _, _, _, h => by simp only [bindTgs] at h; cases h
  | _ :: _, [], _, _, h => by simp only [bindTgs] at h; cases h
  | t :: ts, d :: ds, ρ, ρ', h => by
    simp only [bindTgs] at h
    split at h
    · rw [List.length_cons, List.length_cons, bindTgs_len h]
    · cases h
mutual
theorem pg_tg {N : List Str} {sto : Str → Bool} (eN : X.N = N) (nd : X.N.Nodup) (cal : X.calm = true) (fn : ∀ x, sto x = true → Loc X.env.scope x ∧ (X.fn x = true ∨ X.env.scope.names.lookup x = some .local)) :
    ∀ (t : Tg) (e : Expr), chT N sto t e = true → PG X e (tB X.K H0 (bindTg t) (tgSlots t))
  | .n i, e, h => by
    cases e with
    | Name x p =>
      simp only [chT, Bool.and_eq_true, decide_eq_true_eq] at h
      obtain ⟨h1, h2⟩ := h
      obtain ⟨l, f⟩ := fn x h2
      refine PG.weak (pg_name nd (eN ▸ h1) l f) fun v σ H Q ⟨S, ρ, d, ρ', E, g, hb, q⟩ => ?_
      simp only [bindTg] at hb
      exact q _ (set_sh E hb g) (fun j hj => List.getElem?_set_ne fun e => hj (by simp only [tgSlots, List.mem_singleton]; exact e.symm)) List.length_set
    | _ => simp only [chT] at h; cases h
  | .t ts, e, h => by
    cases e with
    | Tuple es k p =>
      simp only [chT] at h
      obtain ⟨h1, h2⟩ := chTs_len X.env h
      refine PG.weak (pg_tup cal (pg_tgs eN nd cal fn ts es h) h1 h2) fun v σ H Q ⟨S, ρ, d, ρ', E, g, hb, q⟩ => ?_
      cases d with
      | tuple ds =>
        simp only [Good] at g
        obtain ⟨a, vs, e, hr, gl⟩ := g
        simp only [bindTg] at hb
        exact ⟨a, vs, e, hr, by rw [gl.length, bindTgs_len hb], S, ρ, ds, ρ', E, gl, hb, by simpa only [tgSlots] using q⟩
      | _ => simp only [bindTg] at hb; cases hb
    | _ => simp only [chT] at h; cases h
theorem pg_tgs {N : List Str} {sto : Str → Bool} (eN : X.N = N) (nd : X.N.Nodup) (cal : X.calm = true) (fn : ∀ x, sto x = true → Loc X.env.scope x ∧ (X.fn x = true ∨ X.env.scope.names.lookup x = some .local)) :
    ∀ (ts : List Tg) (es : List Expr), chTs N sto ts es = true → PGs X es (tBs X.K H0 (bindTgs ts) (tgsSlots ts))
  | [], es, h => by
    cases es with
    | nil =>
      refine PGs.weak pgs_nil fun v σ H Q ⟨S, ρ, d, ρ', E, g, hb, q⟩ => ?_
      cases d with
      | nil =>
        simp only [GoodL] at g
        simp only [bindTgs] at hb
        cases hb
        exact ⟨g, q σ (Evo.refl E) (fun _ _ => rfl) rfl⟩
      | cons _ _ => simp only [bindTgs] at hb; cases hb
    | cons _ _ => simp only [chTs] at h; cases h
  | t :: ts, es, h => by
    cases es with
    | nil => simp only [chTs] at h; cases h
    | cons e es =>
      simp only [chTs, Bool.and_eq_true] at h
      refine PGs.weak (pgs_cons (pg_tg eN nd cal fn t e h.1) (pg_tgs eN nd cal fn ts es h.2) (by rw [chT_plain h.1]; rfl)) fun v σ H Q ⟨S, ρ, ds, ρ', E, g, hb, q⟩ => ?_
      cases ds with
      | nil => simp only [bindTgs] at hb; cases hb
      | cons d ds =>
        simp only [GoodL] at g
        obtain ⟨x, r, ev, g1, g2⟩ := g
        simp only [bindTgs] at hb
        cases h1 : bindTg t d ρ with
        | none => rw [h1] at hb; cases hb
        | some ρ1 =>
          rw [h1] at hb
          refine ⟨x, r, ev, S, ρ, d, ρ1, E, g1, h1, fun σ1 ev1 k1 l1 => ⟨S, ρ1, ds, ρ', ev1.env, ev1.goodL E g2, hb, fun σ2 ev2 k2 l2 => q σ2 (ev1.trans ev2) (fun i hi => ?_) (l2.trans l1)⟩⟩
          simp only [tgsSlots, List.mem_append, not_or] at hi
          rw [k2 i hi.2, k1 i hi.1]
end
end
end MP
end
section
set_option Elab.async false
set_option linter.all false
set_option autoImplicit false
set_option maxRecDepth 100000
set_option maxHeartbeats 4000001
/-! PROVENANCE of MiniPI: parts of this text began as rows of the library's HandS/Iter and HandS/Zip and were then rewritten; the plan is the library's -/
namespace MP
open PySem.Spec PyProof.Rows L2 PySem

/-- a walk's source -/
def wI (K : PySem.W.Frag) (σ : L2.St) (ik : Ik) (R : It → Hp → Prop) : List Addr → Hp → Rho → List Opd → Prop := fun S1 H1 ρ1 os =>
  ∃ items, itemsI ρ1 ik os = some items ∧ ∀ J ok, (∀ H0', Walk K H0' J items ok) → ok σ S1 H1 (lockO ρ1 os) → R J H1
def tI (K : PySem.W.Frag) (H0 : Hp) (W : WX) (ik : Ik) (ia : List Sm) : TI := fun σ H R => tR K H0 W (evK ik ia) σ H (wI K σ ik R)
section
variable {K : PySem.W.Frag} {H0 : Hp} {W : WX} {σ : L2.St} {S : List Addr} {H : Hp} {ρ : Rho}
/-- a list that is walked is not changed -/
theorem lock_free (E : EnvOk K H0 S σ H ρ) {o : Opd} {ds : List PyData} {a : Addr} (ok : OpdOk K S H σ o (.ref a)) (hd : rdO ρ o = some (.list ds)) : ∃ vs, ((Rd H a (.lst vs) ∧ ¬ MA σ (lockO ρ [o]) a) ∨ KL K a vs) ∧ GoodL K S H ds vs := by
  have shd : ∀ {ρ'}, EnvOk K H0 S σ H ρ' → Good K S H (.list ds) (.ref a) → ∃ vs, ((Rd H a (.lst vs) ∧ ¬ MA σ ρ' a) ∨ KL K a vs) ∧ GoodL K S H ds vs := fun E' g => by
    simp only [Good] at g
    obtain ⟨a', vs, e, h, gl⟩ := g
    cases e
    exact ⟨vs, h.imp (fun h => ⟨h.2, fun m => h.1 (E'.ma m).1⟩) (fun h => h), gl⟩
  have hl : EnvOk K H0 S σ H (lockO ρ [o]) := (lock_evo E [o]).env
  cases o with
  | val d =>
    cases hd
    exact shd hl ok
  | slot i =>
    have ok' : σ[i]? = some (some (.ref a)) := ok
    simp only [rdO, Option.bind_eq_some_iff] at hd
    obtain ⟨s, hs, q⟩ := hd
    have own : ∀ {t}, (ρ[i]? = some (.mu t (.list ds)) ∨ ρ[i]? = some (.lk t (.list ds))) → ¬ MA σ (lockO ρ [.slot i]) a → ∃ vs, ((Rd H a (.lst vs) ∧ ¬ MA σ (lockO ρ [.slot i]) a) ∨ KL K a vs) ∧ GoodL K S H ds vs := fun h n => by
      obtain ⟨b, hb, _, ⟨vs, hv, gl⟩, _⟩ := E.mu i _ _ h
      rw [ok'] at hb
      cases hb
      exact ⟨vs, .inl ⟨.inl hv, n⟩, gl⟩
    cases s with
    | no => cases q
    | sh d' =>
      cases q
      obtain ⟨v, hv, g⟩ := E.sh i _ hs
      rw [ok'] at hv
      cases hv
      exact shd hl g
    | mu t d' =>
      cases q
      refine own (.inl hs) ?_
      rintro ⟨j, t', d2, h, hj⟩
      have el : lockO ρ [.slot i] = ρ.set i (.lk t (.list ds)) := by simp only [lockO, hs]
      rw [el] at h
      rcases set_get h with ⟨_, e⟩ | ⟨n, h⟩
      · cases e
      · exact E.apart i j _ _ a (Ne.symm n) hs h rfl rfl ok' hj
    | lk t d' =>
      cases q
      refine own (.inr hs) ?_
      rintro ⟨j, t', d2, h, hj⟩
      have el : lockO ρ [.slot i] = ρ := by simp only [lockO, hs]
      rw [el] at h
      have n : j ≠ i := fun e => by
        subst e
        rw [hs] at h
        cases h
      exact E.apart i j _ _ a (Ne.symm n) hs h rfl rfl ok' hj
/-- the source of enumerate, zip -/
theorem src_of {d : PyData} {ds : List PyData} {v : V} {u : Value} {ρ' : Rho} (g : GoodB K S H d v) (r : RelV v u) (hi : itemsOf d = some ds) (nm : ∀ a ds, v = .ref a → d = .list ds → ∃ vs, ((Rd H a (.lst vs) ∧ ¬ MA σ ρ' a) ∨ KL K a vs) ∧ GoodL K S H ds vs) : ∃ sc, ScV sc u ∧ ScOk K sc ds σ S H ρ' := by
  cases d with
  | list xs =>
    cases hi
    obtain ⟨a, vs, e, hr, gl⟩ := g.list
    subst e
    exact ⟨.l a, r, nm a _ rfl rfl⟩
  | tuple xs =>
    cases hi
    obtain ⟨a, vs, e, hr, gl⟩ := g.tuple
    subst e
    exact ⟨.t a, r, vs, hr, gl⟩
  | str x =>
    cases hi
    have e := g.str
    subst e
    obtain ⟨t, e⟩ := r
    exact ⟨.s x t, e, rfl⟩
  | none => cases hi
  | bool _ => cases hi
  | int _ => cases hi
  | dict _ => cases hi
theorem begins_sc {X : Cx} {pins : List (Addr × Obj)} {s : Shared} {xs : List V} {u : Value} (I : Inv X pins σ H s) : ∀ {sc : Sc}, ScAt X.K H sc xs → ScV sc u → ∃ P : Heap → Prop, Begins u (scObj sc) P ∧ P s.heap
  | .l a, h, e => by
    obtain ⟨its, rv, p, hz⟩ := I.list h
    cases e
    exact ⟨_, begins_list a its.toArray, p.isList⟩
  | .t a, h, e => by
    obtain ⟨its, rv, p, hz⟩ := I.tuple h
    cases e
    exact ⟨_, begins_tuple a its.toArray, p⟩
  | .s x t, h, e => by
    cases e
    exact ⟨_, begins_text x t, trivial⟩
end
section
variable {X : Cx} {H0 : Hp} {W : WX} {e e1 e2 tg : Expr} {m m1 m2 : Sm} {p pos tpos : Pos} {elts : List Expr} {kk : Nat}
/-- over a list, a tuple, a text -/
theorem pi_lis (h : SV X H0 W e m) : PI X tg e (tI X.K H0 W .lis [m]) := by
  refine ⟨fun pins s σ H R I ⟨S, ρ, E, q⟩ => ?_⟩
  have q : Aft X.K H0 W σ S H ρ ((m.o ρ).bind fun o ρ1 => .ok [o] ρ1) (wI X.K σ .lis R) := q
  cases hr : m.o ρ with
  | st => rw [hr] at q; exact q.elim
  | ex c ρ' =>
    rw [hr] at q
    exact (pi_list h.o).run pins s σ H R I ⟨S, ρ, E, by rw [hr]; exact q⟩
  | ok o ρ1 =>
    rw [hr] at q
    have q : ∀ S1 H1, Evo X.K H0 σ S H ρ σ S1 H1 ρ1 → wI X.K σ .lis R S1 H1 ρ1 [o] := q
    have bad : (∀ d, rdO ρ1 o = some d → itemsOf d = none) → wpAny (model X.prog X.w) X.A (eval e X.env) (fun v s1 => wpAny (model X.prog X.w) X.A (pyIter v) (PIE X pins σ tg R) X.xe s1) X.xe s := fun hb => by
      refine (pi_list h.o).run pins s σ H R I ⟨S, ρ, E, ?_⟩
      rw [hr]
      intro S1 H1 ev
      obtain ⟨items, hi, _⟩ := q S1 H1 ev
      simp only [itemsI, Option.bind_eq_some_iff] at hi
      obtain ⟨d, h1, h2⟩ := hi
      rw [hb d h1] at h2
      cases h2
    cases hd : rdO ρ1 o with
    | none => exact bad fun d h => by rw [hd] at h; cases h
    | some d =>
      cases d with
      | list ds =>
        refine (pi_list h.o).run pins s σ H R I ⟨S, ρ, E, ?_⟩
        rw [hr]
        intro S1 H1 ev v ok
        obtain ⟨items, hi, hq⟩ := q S1 H1 ev
        simp only [itemsI, hd, Option.bind_some, itemsOf, Option.some.injEq] at hi
        subst hi
        obtain ⟨a, vs, ea, rr, gl⟩ := (ok.rd ev.env hd).list
        subst ea
        exact ⟨a, rfl, ⟨vs, rr.sq⟩, hq _ _ (fun _ => walk_l a ds) (lock_free ev.env ok hd)⟩
      | tuple ds =>
        refine (pi_tup h.o).run pins s σ H R I ⟨S, ρ, E, ?_⟩
        rw [hr]
        intro S1 H1 ev v ok
        obtain ⟨items, hi, hq⟩ := q S1 H1 ev
        simp only [itemsI, hd, Option.bind_some, itemsOf, Option.some.injEq] at hi
        subst hi
        obtain ⟨a, vs, ea, rr, gl⟩ := (ok.rd ev.env hd).tuple
        subst ea
        exact ⟨a, rfl, ⟨vs, rr⟩, hq _ _ (fun _ => walk_t a ds) ⟨vs, rr, gl⟩⟩
      | str x =>
        refine (pi_str h.o).run pins s σ H R I ⟨S, ρ, E, ?_⟩
        rw [hr]
        intro S1 H1 ev v ok
        obtain ⟨items, hi, hq⟩ := q S1 H1 ev
        simp only [itemsI, hd, Option.bind_some, itemsOf, Option.some.injEq] at hi
        subst hi
        have ea := (ok.rd ev.env hd).str
        subst ea
        exact ⟨x, rfl, hq _ _ (fun _ => walk_s x) trivial⟩
      | none => exact bad fun d h => by rw [hd] at h; cases h; rfl
      | bool _ => exact bad fun d h => by rw [hd] at h; cases h; rfl
      | int _ => exact bad fun d h => by rw [hd] at h; cases h; rfl
      | dict _ => exact bad fun d h => by rw [hd] at h; cases h; rfl
theorem small_iff {j : Int} (h : small j = true) : -(2 ^ 62) ≤ j ∧ j < 2 ^ 62 := by
  unfold small at h
  rw [Bool.and_eq_true] at h
  exact ⟨of_decide_eq_true h.1, of_decide_eq_true h.2⟩
theorem itemsI_r1 {ρ : Rho} {os : List Opd} {items : List PyData} (h : itemsI ρ .rng1 os = some items) : ∃ j, os = [.val (.int j)] ∧ small j = true ∧ items = rangeD 0 j.toNat := by
  unfold itemsI at h
  split at h
  all_goals first | (rename_i heq _; cases heq; done) | (rename_i heq; cases heq; done) | skip
  · rename_i j _
    by_cases hs : small j = true
    · rw [if_pos hs] at h
      cases h
      exact ⟨j, rfl, hs, rfl⟩
    · rw [if_neg hs] at h
      cases h
  · cases h
theorem itemsI_r2 {ρ : Rho} {os : List Opd} {items : List PyData} (h : itemsI ρ .rng2 os = some items) : ∃ i j, os = [.val (.int i), .val (.int j)] ∧ small i = true ∧ small j = true ∧ items = rangeD i (j - i).toNat := by
  unfold itemsI at h
  split at h
  all_goals first | (rename_i heq _; cases heq; done) | (rename_i heq; cases heq; done) | skip
  · rename_i i j _
    by_cases hs : (small i && small j) = true
    · rw [if_pos hs] at h
      rw [Bool.and_eq_true] at hs
      cases h
      exact ⟨i, j, rfl, hs.1, hs.2, rfl⟩
    · rw [if_neg hs] at h
      cases h
  · cases h
theorem pi_rng1 (h : SV X H0 W e m) (hp : plainE e = true) (hg : Gl X "range") (hm : X.mg "range" = none) : PI X tg (.Call (.Name "range" p) [e] [] pos) (tI X.K H0 W .rng1 [m]) := by
  have ha : PA X [e] (tOs X.K H0 W (evOs [m])) := args_o (.cons h .nil) (by rw [List.all_cons, hp]; rfl)
  refine ⟨fun pins s σ H R I ⟨S, ρ, E, q⟩ => (pi_range1 hg hm ha (star_plain hp)).run pins s σ H R I ⟨S, ρ, E, ?_⟩⟩
  refine Aft.thn q fun S1 H1 ρ1 os ev ⟨items, hi, q⟩ vs oks => ?_
  obtain ⟨j, eo, hs, ei⟩ := itemsI_r1 hi
  subst eo ei
  obtain ⟨v, r, e1, h1, h2⟩ := oks
  have h1' : v = .int j := by
    have : Good X.K S1 H1 (.int j) v := h1
    simpa only [Good] using this
  have h2' : r = [] := h2
  subst h1' h2'
  exact ⟨j, e1, (small_iff hs).1, (small_iff hs).2, q _ _ (fun _ => walk_r 0 j.toNat) trivial⟩
theorem pi_rng2 (h : SV X H0 W e m) (hb : SV X H0 W e1 m1) (hp : plainE e = true) (hp1 : plainE e1 = true) (hg : Gl X "range") (hm : X.mg "range" = none) : PI X tg (.Call (.Name "range" p) [e, e1] [] pos) (tI X.K H0 W .rng2 [m, m1]) := by
  have ha : PA X [e, e1] (tOs X.K H0 W (evOs [m, m1])) := args_o (.cons h (.cons hb .nil)) (by rw [List.all_cons, hp, List.all_cons, hp1]; rfl)
  refine ⟨fun pins s σ H R I ⟨S, ρ, E, q⟩ => (pi_range2 hg hm ha ((star_plain hp).trans (by rw [star_plain hp1]; rfl)) (star_plain hp1)).run pins s σ H R I ⟨S, ρ, E, ?_⟩⟩
  refine Aft.thn q fun S1 H1 ρ1 os ev ⟨items, hi, q⟩ vs oks => ?_
  obtain ⟨i, j, eo, hs1, hs2, ei⟩ := itemsI_r2 hi
  subst eo ei
  obtain ⟨v, r, e1, h1, v2, r2, e2, h2, h3⟩ := oks
  have h1' : v = .int i := by
    have : Good X.K S1 H1 (.int i) v := h1
    simpa only [Good] using this
  have h2' : v2 = .int j := by
    have : Good X.K S1 H1 (.int j) v2 := h2
    simpa only [Good] using this
  have h3' : r2 = [] := h3
  subst h1' h2' h3' e2
  exact ⟨i, j, e1, ⟨(small_iff hs1).1, (small_iff hs1).2, (small_iff hs2).1, (small_iff hs2).2⟩, q _ _ (fun _ => walk_r i (j - i).toNat) trivial⟩
theorem new_fp {pins : List (Addr × Obj)} {σ : L2.St} {H : Hp} {s : Shared} {b : Nat} (I : Inv X pins σ H s) (h : s.heap.objs.size ≤ b) : FpOk X pins H b := I.fpOk h (I.hok.fresh h)
theorem pi_enu (h : SV X H0 W e m) (hp : plainE e = true) (hg : Gl X "enumerate") (hm : X.mg "enumerate" = none) : PI X (.Tuple elts kk tpos) (.Call (.Name "enumerate" p) [e] [] pos) (tI X.K H0 W .enu [m]) := by
  have ha : PA X [e] (tOs X.K H0 W (evOs [m])) := args_o (.cons h .nil) (by rw [List.all_cons, hp]; rfl)
  refine ⟨fun pins s σ H R I ⟨S, ρ, E, q⟩ => ?_⟩
  have h' : tOs X.K H0 W (evOs [m]) σ H fun vs H1 => ∃ S1 ρ1 os, EnvOk X.K H0 S1 σ H1 ρ1 ∧ OpdsOk X.K S1 H1 σ os vs ∧ wI X.K σ .enu R S1 H1 ρ1 os :=
    ⟨S, ρ, E, Aft.thn q fun S1 H1 ρ1 os ev q vs oks => ⟨S1, ρ1, os, ev.env, oks, q⟩⟩
  refine Call_ (ld_blt I hg hm boot_enumerate (PyProof.Rows.callWith_type1 (thn (ha.run pos pins s σ H _ I h') fun us s1 ⟨vs, H1, I1, r1, S1, ρ1, os, E1, oks, items, hi, q⟩ => ?_) (star_plain hp) rfl))
  match os, oks, hi, q with
  | [], oks, hi, q => cases hi
  | _ :: _ :: _, oks, hi, q => cases hi
  | [o], ⟨v, r, e1, ok, h2⟩, hi, q =>
    have h2' : r = [] := h2
    subst h2' e1
    simp only [itemsI, Option.map_eq_some_iff, Option.bind_eq_some_iff] at hi
    obtain ⟨ds, ⟨d, hd, hid⟩, ei⟩ := hi
    subst ei
    cases r1 with
    | cons rv rr =>
      cases rr
      rename_i u
      obtain ⟨sc, hv, ho⟩ := src_of (σ := σ) (ρ' := lockO ρ1 [o]) (ok.rd E1 hd) rv hid (fun a ds e1 e2 => by subst e1 e2; exact lock_free E1 ok hd)
      obtain ⟨xs, at', gl⟩ := ho.at
      obtain ⟨P, B, hP⟩ := begins_sc I1 at' hv
      refine enum_starts B hP fun h2 ⟨en, at2⟩ same => wpAny_pyIter_enum en ⟨s1.heap.objs.size + 1, [s1.heap.objs.size + 1, s1.heap.objs.size], _, _, H1, rfl, I1.kept (h' := h2) (t' := s1.toks) same, turn_enumS sc (s1.heap.objs.size + 1) s1.heap.objs.size, ⟨Nat.succ_ne_self _, scIt_new at2, .none, en⟩, fun b m => ?_, q _ _ (fun _ => walk_e sc ds) ho⟩
      exact new_fp I1 (by simp only [List.mem_cons, List.not_mem_nil, or_false] at m; rcases m with z | z <;> rw [z] <;> first | exact Nat.le_refl _ | exact Nat.le_add_right _ _)
theorem good_free {K : PySem.W.Frag} {σ : L2.St} {S : List Addr} {H : Hp} {ρ : Rho} (E : EnvOk K H0 S σ H ρ) {d : PyData} {v : V} (g : Good K S H d v) : ∀ a ds, v = .ref a → d = .list ds → ∃ vs, ((Rd H a (.lst vs) ∧ ¬ MA σ ρ a) ∨ KL K a vs) ∧ GoodL K S H ds vs := fun a ds e1 e2 => by
  subst e1 e2
  simp only [Good] at g
  obtain ⟨a', vs, e, h, gl⟩ := g
  cases e
  exact ⟨vs, h.imp (fun h => ⟨h.2, fun m => h.1 (E.ma m).1⟩) (fun h => h), gl⟩
theorem ap5_of (n : Nat) : Ap5 (n + 4) (n + 2) (n + 3) n (n + 1) := ⟨fun h => by have h' : (n + 2 : Nat) = n + 4 := h; omega, fun h => by have h' : (n + 3 : Nat) = n + 4 := h; omega, fun h => by have h' : (n + 2 : Nat) = n + 3 := h; omega, fun h => by have h' : (n + 2 : Nat) = n + 0 := h; omega, fun h => by have h' : (n + 2 : Nat) = n + 1 := h; omega, fun h => by have h' : (n + 3 : Nat) = n + 0 := h; omega, fun h => by have h' : (n + 3 : Nat) = n + 1 := h; omega, fun h => by have h' : (n + 4 : Nat) = n + 0 := h; omega, fun h => by have h' : (n + 4 : Nat) = n + 1 := h; omega, fun h => by have h' : (n + 0 : Nat) = n + 1 := h; omega⟩
theorem pi_zip2 (h : SV X H0 W e m) (hb : SV X H0 W e1 m1) (hp : plainE e = true) (hp1 : plainE e1 = true) (hg : Gl X "zip") (hm : X.mg "zip" = none) : PI X (.Tuple elts kk tpos) (.Call (.Name "zip" p) [e, e1] [] pos) (tI X.K H0 W .zip [m, m1]) := by
  have ha : PA X [e, e1] (tVs X.K H0 W (evs [m, m1])) := args_v (.cons h (.cons hb .nil)) (by rw [List.all_cons, hp, List.all_cons, hp1]; rfl)
  refine ⟨fun pins s σ H R I ⟨S, ρ, E, q⟩ => ?_⟩
  have h' : tVs X.K H0 W (evs [m, m1]) σ H fun vs H1 => ∃ S1 ρ1 ds, EnvOk X.K H0 S1 σ H1 ρ1 ∧ GoodL X.K S1 H1 ds vs ∧ wI X.K σ .zip R S1 H1 ρ1 (ds.map .val) :=
    ⟨S, ρ, E, (Aft.bind q).thn fun S1 H1 ρ1 ds ev q vs g => ⟨S1, ρ1, ds, ev.env, g, q.now ev.env⟩⟩
  refine Call_ (ld_blt I hg hm PyProof.Rows.boot_zip (PyProof.Rows.callWith_type1 (thn (ha.run pos pins s σ H _ I h') fun us s1 ⟨vs, H1, I1, r1, S1, ρ1, ds, E1, gl, items, hi, q⟩ => ?_) (star_plain hp) (stars_plain (by rw [List.all_cons, hp1]; rfl))))
  match ds, gl, hi, q with
  | [], _, hi, q => cases hi
  | [_], _, hi, q => cases hi
  | _ :: _ :: _ :: _, _, hi, q => cases hi
  | [da, db], gl, hi, q =>
    simp only [GoodL] at gl
    obtain ⟨va, r, e1, ga, vb, r2, e2, gb, e3⟩ := gl
    subst e1 e2 e3
    simp only [List.map_cons, List.map_nil, itemsI] at hi
    split at hi
    · rename_i xa xb hxa hxb
      cases hi
      cases r1 with
      | cons rv rr =>
        cases rr with
        | cons rv2 rr =>
          cases rr
          have el : lockO ρ1 [.val da, .val db] = ρ1 := rfl
          obtain ⟨sa, hv, ho⟩ := src_of (σ := σ) (ρ' := ρ1) ga.b rv hxa (good_free E1 ga)
          obtain ⟨sb, hv2, ho2⟩ := src_of (σ := σ) (ρ' := ρ1) gb.b rv2 hxb (good_free E1 gb)
          obtain ⟨xs, at1, gl1⟩ := ho.at
          obtain ⟨ys, at2, gl2⟩ := ho2.at
          obtain ⟨P1, B1, hP1⟩ := begins_sc I1 at1 hv
          obtain ⟨P2, B2, hP2⟩ := begins_sc I1 at2 hv2
          refine zip_begins2 B1 B2 hP1 hP2 fun h2 hz hti hto k1 k2 _ same => wpAny_pyIter_zip hz ⟨s1.heap.objs.size + 4, [s1.heap.objs.size + 4, s1.heap.objs.size + 2, s1.heap.objs.size + 3, s1.heap.objs.size, s1.heap.objs.size + 1], _, _, H1, rfl, I1.kept (h' := h2) (t' := s1.toks) same,
            turn_zipS (a := sa) (b := sb) (ap5_of s1.heap.objs.size), ⟨⟨scIt_new k1, scIt_new k2⟩, ⟨hz, hti⟩, _, _, hto⟩, fun c m => ?_, q _ _ (fun _ => walk_z sa sb xa xb) ⟨ho, ho2⟩⟩
          exact new_fp I1 (by simp only [List.mem_cons, List.not_mem_nil, or_false] at m; rcases m with z | z | z | z | z <;> rw [z] <;> first | exact Nat.le_refl _ | exact Nat.le_add_right _ _)
    · cases hi
end
end MP
end
section
set_option Elab.async false
set_option linter.all false
set_option autoImplicit false
set_option maxRecDepth 100000
set_option maxHeartbeats 4000001
namespace MP
open PySem.Spec PyProof.Rows L2 PySem

/-! ### reserving an address, wiping slots -/
section
variable {K : PySem.W.Frag} {H0 : Hp} {σ σ' : L2.St} {S S' : List Addr} {H H' : Hp} {ρ ρ' : Rho}
theorem EnvOk.unres {D : Addr} {o : HO} (E : EnvOk K (upd H0 D o) S σ H ρ) : EnvOk K H0 S σ H ρ where
  len := E.len
  sh := E.sh
  mu := fun i t d h => by
    obtain ⟨a, ha, hS, hc, hf⟩ := E.mu i t d h
    refine ⟨a, ha, hS, hc, fun e => ?_⟩
    have := hf e
    by_cases ea : a = D
    · rw [ea, upd_same] at this; cases this
    · rwa [upd_ne ea] at this
  apart := E.apart
  dom := E.dom
  ent := fun a h => E.ent a (by
    by_cases ea : a = D
    · rw [ea, upd_same]; exact fun z => nomatch z
    · rwa [upd_ne ea])
theorem EnvOk.res {D : Addr} {o : HO} (E : EnvOk K H0 S σ H ρ) (hd : H D ≠ none) (ho : ¬ OA σ ρ D) : EnvOk K (upd H0 D o) S σ H ρ where
  len := E.len
  sh := E.sh
  mu := fun i t d h => by
    obtain ⟨a, ha, hS, hc, hf⟩ := E.mu i t d h
    refine ⟨a, ha, hS, hc, fun e => ?_⟩
    have ea : a ≠ D := fun ea => ho (by
      subst ea
      rcases h with h | h
      · exact ⟨i, _, h, rfl, ha⟩
      · exact ⟨i, _, h, rfl, ha⟩)
    rw [upd_ne ea]
    exact hf e
  apart := E.apart
  dom := E.dom
  ent := fun a h => by
    by_cases ea : a = D
    · rw [ea]; exact hd
    · rw [upd_ne ea] at h
      exact E.ent a h
theorem Evo.unres {D : Addr} {o : HO} (v : Evo K (upd H0 D o) σ S H ρ σ' S' H' ρ') : Evo K H0 σ S H ρ σ' S' H' ρ' :=
  ⟨v.keep, v.sub, fun a m h => v.old a m (by
    by_cases ea : a = D
    · rw [ea, upd_same]; exact fun z => nomatch z
    · rwa [upd_ne ea]), v.mono, v.ow, v.io, v.there, v.lk, v.env.unres⟩
theorem EnvOk.oa (E : EnvOk K H0 S σ H ρ) {a : Addr} (h : OA σ ρ a) : a ∈ S ∧ ∃ o, H a = some o ∧ MutO o := by
  obtain ⟨i, s, hs, m, ha⟩ := h
  cases s with
  | no => cases m
  | sh _ => cases m
  | mu t d =>
    obtain ⟨b, hb, hS, hc, _⟩ := E.mu i t d (.inl hs)
    rw [ha] at hb
    cases hb
    exact ⟨hS, hc.mut⟩
  | lk t d =>
    obtain ⟨b, hb, hS, hc, _⟩ := E.mu i t d (.inr hs)
    rw [ha] at hb
    cases hb
    exact ⟨hS, hc.mut⟩
/-- fewer addresses, all the owned ones -/
theorem EnvOk.less (E : EnvOk K H0 S σ H ρ) (h1 : ∀ a, a ∈ S' → a ∈ S) (h2 : ∀ a, OA σ ρ a → a ∈ S') : EnvOk K H0 S' σ H ρ where
  len := E.len
  sh := fun i d h => let ⟨v, hv, g⟩ := E.sh i d h; ⟨v, hv, g.less h1⟩
  mu := fun i t d h => by
    obtain ⟨a, ha, hS, hc, hf⟩ := E.mu i t d h
    refine ⟨a, ha, h2 a ?_, Cont.chg (Chg.less h1) (fun h => h) hc, hf⟩
    rcases h with h | h
    · exact ⟨i, _, h, rfl, ha⟩
    · exact ⟨i, _, h, rfl, ha⟩
  apart := E.apart
  dom := fun a m => E.dom a (h1 a m)
  ent := E.ent
/-- the reserved address is written -/
theorem EnvOk.put {D : Addr} {o : HO} (E : EnvOk K H0 S σ H ρ) (hS : D ∈ S) {o0 : HO} (h0 : H D = some o0) (m0 : MutO o0) (ho : ¬ OA σ ρ D) : EnvOk K H0 S σ (upd H D o) ρ := by
  have c : Chg S S H (upd H D o) (fun a => a = D) := ⟨fun a x h n => by rw [upd_ne n]; exact h, fun a e => by subst e; exact ⟨hS, o0, h0, m0⟩, fun _ h => .inl h⟩
  have th : ∀ a, H a ≠ none → upd H D o a ≠ none := fun a h => by
    by_cases ea : a = D
    · rw [ea, upd_same]; exact fun z => nomatch z
    · rwa [upd_ne ea]
  refine ⟨E.len, fun i d h => let ⟨v, hv, g⟩ := E.sh i d h; ⟨v, hv, Good.chg c d v g⟩, fun i t d h => ?_, E.apart, fun a m => th a (E.dom a m), fun a h => th a (E.ent a h)⟩
  obtain ⟨a, ha, hS', hc, hf⟩ := E.mu i t d h
  refine ⟨a, ha, hS', Cont.chg c (fun ea => ho ?_) hc, hf⟩
  subst ea
  rcases h with h | h
  · exact ⟨i, _, h, rfl, ha⟩
  · exact ⟨i, _, h, rfl, ha⟩
theorem goodL_put {D : Addr} {o o0 : HO} (hS : D ∈ S) (h0 : H D = some o0) (m0 : MutO o0) {ds : List PyData} {vs : List V} (g : GoodL K S H ds vs) : GoodL K S (upd H D o) ds vs :=
  GoodL.chg (M := fun a => a = D) ⟨fun a x h n => by rw [upd_ne n]; exact h, fun a e => by subst e; exact ⟨hS, o0, h0, m0⟩, fun _ h => .inl h⟩ ds vs g
/-- what is reserved is not turned to -/
theorem Evo.res (v : Evo K H0 σ S H ρ σ' S' H' ρ') {D : Addr} {o : HO} (h : H D = some o) (ho : ¬ OA σ ρ D) : H' D = some o ∧ ¬ OA σ' ρ' D := by
  refine ⟨v.keep D o h fun ⟨i, t, d, h1, h2⟩ => ho ⟨i, _, h1, rfl, h2⟩, fun q => ?_⟩
  rcases v.ow D q with q | q
  · exact ho q
  · rw [h] at q; cases q
/-- a change at an address that was not there at the start -/
theorem Evo.put {σ1 : L2.St} {S1 : List Addr} {H1 : Hp} {ρ1 : Rho} (v : Evo K H0 σ1 S1 H1 ρ1 σ S H ρ) {D : Addr} {o o0 : HO} (hD : H1 D = Option.none) (hS : D ∈ S) (h0 : H D = some o0) (m0 : MutO o0) (ho : ¬ OA σ ρ D) : Evo K H0 σ1 S1 H1 ρ1 σ S (upd H D o) ρ := by
  refine ⟨fun a x h n => ?_, v.sub, v.old, v.mono, v.ow, v.io, fun a h => ?_, v.lk, v.env.put hS h0 m0 ho⟩
  · have ea : a ≠ D := fun e => by rw [e, hD] at h; cases h
    rw [upd_ne ea]
    exact v.keep a x h n
  · by_cases ea : a = D
    · rw [ea, upd_same]; exact fun z => nomatch z
    · rw [upd_ne ea]; exact v.there a h
/-- the reserved address given back -/
theorem Evo.drop {σ1 : L2.St} {S1 : List Addr} {H1 : Hp} {ρ1 : Rho} (E : EnvOk K H0 S1 σ1 H1 ρ1) (v : Evo K H0 σ1 S1 H1 ρ1 σ S H ρ) {D : Addr} (hD : H1 D = Option.none) (ho : ¬ OA σ ρ D) : Evo K H0 σ1 S1 H1 ρ1 σ (S.filter fun a => decide (a ≠ D)) H ρ := by
  have hs : ∀ a, a ∈ S.filter (fun a => decide (a ≠ D)) → a ∈ S := fun a h => (List.mem_filter.mp h).1
  refine ⟨v.keep, fun a m => v.sub a (hs a m), fun a m h => List.mem_filter.mpr ⟨v.old a m h, decide_eq_true fun e => E.dom a m (e ▸ hD)⟩, v.mono, v.ow, v.io, v.there, v.lk, v.env.less hs fun a h => List.mem_filter.mpr ⟨(v.env.oa h).1, decide_eq_true fun e => ho (e ▸ h)⟩⟩
theorem wipe_set (σ : L2.St) (i : Nat) : ∀ vs : List Nat, wipe (σ.set i none) vs = (wipe σ vs).set i none
  | [] => rfl
  | v :: vs => by
    simp only [wipe, wipe_set σ i vs]
    by_cases e : i = v
    · rw [e]
    · exact List.set_comm _ _ e
theorem wipe_evo : ∀ {vs : List Nat} {σ : L2.St} {ρ ρ' : Rho}, EnvOk K H0 S σ H ρ → wipeR vs ρ = some ρ' → Evo K H0 σ S H ρ (wipe σ vs) S H ρ'
  | [], σ, ρ, ρ', E, h => by
    simp only [wipeR] at h
    cases h
    exact Evo.refl E
  | i :: vs, σ, ρ, ρ', E, h => by
    simp only [wipeR] at h
    cases h1 : setSl i .no ρ with
    | none => rw [(h1)] at h; cases h
    | some ρ1 =>
      rw [h1] at h
      have e1 := set_no (o := none) E h1
      have e2 := wipe_evo e1.env h
      rw [wipe_set] at e2
      exact e1.trans e2
/-- the block's slots: behind it the def's own are as they were -/
theorem Evo.unwipe {vs : List Nat} (v : Evo K H0 σ S H ρ (wipe σ' vs) S' H' ρ') (E0 : EnvOk K H0 S σ H ρ) (hl : ∀ (i : Nat) t d, ρ[i]? = some (.lk t d) → σ'[i]? = σ[i]?) : Evo K H0 σ S H ρ σ' S' H' ρ' := by
  have E := v.env
  have at' : ∀ (i : Nat) (s : Sl) a, ρ'[i]? = some s → isMu s = true → σ'[i]? = some (some (.ref a)) → (wipe σ' vs)[i]? = some (some (.ref a)) := fun i s a h m ha => by
    have : ∃ b, (wipe σ' vs)[i]? = some (some (.ref b)) := by
      cases s with
      | no => cases m
      | sh _ => cases m
      | mu t d => obtain ⟨b, hb, _⟩ := E.mu i t d (.inl h); exact ⟨b, hb⟩
      | lk t d => obtain ⟨b, hb, _⟩ := E.mu i t d (.inr h); exact ⟨b, hb⟩
    obtain ⟨b, hb⟩ := this
    have := (wipe_some hb).1
    rw [ha] at this
    cases this
    exact hb
  refine ⟨v.keep, v.sub, v.old, fun a ⟨i, t, d, h, ha⟩ => v.mono a ⟨i, t, d, h, at' i _ a h rfl ha⟩, fun a ⟨i, s, h, m, ha⟩ => v.ow a ⟨i, s, h, m, at' i s a h m ha⟩, fun i s h m => ?_, v.there, fun i t d h => ⟨(v.lk i t d h).1, hl i t d h⟩, ?_⟩
  · obtain ⟨q1, s', q2, q3⟩ := v.io i s h m
    refine ⟨?_, s', q2, q3⟩
    have : ∃ b, σ[i]? = some (some (.ref b)) := by
      cases s with
      | no => cases m
      | sh _ => cases m
      | mu t d => obtain ⟨b, hb, _⟩ := E0.mu i t d (.inl h); exact ⟨b, hb⟩
      | lk t d => obtain ⟨b, hb, _⟩ := E0.mu i t d (.inr h); exact ⟨b, hb⟩
    obtain ⟨b, hb⟩ := this
    rw [hb] at q1 ⊢
    exact (wipe_some q1).1
  refine ⟨by rw [E.len, wipe_length], fun i d h => ?_, fun i t d h => ?_, fun i j s t a hij h1 h2 m1 m2 q1 q2 => ?_, E.dom, E.ent⟩
  · obtain ⟨x, hx, g⟩ := E.sh i d h
    exact ⟨x, (wipe_some hx).1, g⟩
  · obtain ⟨a, ha, r⟩ := E.mu i t d h
    exact ⟨a, (wipe_some ha).1, r⟩
  · exact E.apart i j s t a hij h1 h2 m1 m2 (at' i s a h1 m1 q1) (at' j t a h2 m2 q2)
end
theorem wipe_in : ∀ {vs : List Nat} {σ : L2.St} {i : Nat}, i ∈ vs → i < σ.length → (wipe σ vs)[i]? = some none
  | v :: vs, σ, i, h, hl => by
    simp only [wipe]
    by_cases e : i = v
    · subst e
      rw [List.getElem?_set_self (by rw [wipe_length]; exact hl)]
    · rw [List.getElem?_set_ne (Ne.symm e)]
      rcases List.mem_cons.1 h with q | q
      · exact absurd q e
      · exact wipe_in q hl
theorem wipe_ext {vs : List Nat} {σ σ2 : L2.St} (hl : σ2.length = σ.length) (h : ∀ i, i ∉ vs → σ2[i]? = σ[i]?) : wipe σ2 vs = wipe σ vs := by
  apply List.ext_getElem?
  intro i
  by_cases m : i ∈ vs
  · by_cases q : i < σ.length
    · rw [wipe_in m q, wipe_in m (hl ▸ q)]
    · rw [List.getElem?_eq_none (by rw [wipe_length]; omega), List.getElem?_eq_none (by rw [wipe_length]; omega)]
  · rw [wipe_out m, wipe_out m, h i m]
/-! ### any entry -/
def exE {β : Type} (t : Hp → L2.St → Hp → β → Prop) : L2.St → Hp → β → Prop := fun σ H Q => ∃ H0, t H0 σ H Q
def exG (t : Hp → TG) : TG := fun v σ H Q => ∃ H0, t H0 v σ H Q
theorem PE.ex {X : Cx} {e : Expr} {t : Hp → TE} (h : ∀ H0, PE X e (t H0)) : PE X e (exE t) := ⟨fun pins s σ H Q I ⟨H0, q⟩ => (h H0).run pins s σ H Q I q⟩
theorem PT.ex {X : Cx} {e : Expr} {t : Hp → TT} (h : ∀ H0, PT X e (t H0)) : PT X e (exE t) := ⟨fun pins s σ H Q I ⟨H0, q⟩ => (h H0).run pins s σ H Q I q⟩
theorem PG.ex {X : Cx} {e : Expr} {t : Hp → TG} (h : ∀ H0, PG X e (t H0)) : PG X e (exG t) := ⟨fun pins s σ H v u Q I r ⟨H0, q⟩ => (h H0).run pins s σ H v u Q I r q⟩
theorem PTs.ex {X : Cx} {e : List Expr} {t : Hp → TT} (h : ∀ H0, PTs X e (t H0)) : PTs X e (exE t) := ⟨fun pins s σ H Q I ⟨H0, q⟩ => (h H0).run pins s σ H Q I q⟩
def noW : WX := fun _ _ _ _ => False
theorem pts_of {X : Cx} {H0 : Hp} {W : WX} {ifs : List Expr} {ms : List Sm} (h : SVs X H0 W ifs ms) (hl : ms.length ≤ 1) : PTs X ifs (tT X.K H0 W (evC ms)) := by
  cases h with
  | nil => exact ⟨fun pins s σ H Q I ⟨S, ρ, E, q⟩ => pts_nil.run pins s σ H Q I (q.now E)⟩
  | cons h1 h2 =>
    cases h2 with
    | nil => exact pts_one h1.t
    | cons _ _ => simp at hl
end MP
end
section
set_option Elab.async false
set_option linter.all false
set_option autoImplicit false
set_option maxRecDepth 100000
set_option maxHeartbeats 4000001
namespace MP
open PySem.Spec PyProof.Rows L2 PySem

theorem compL_cons {f : PyData → Rho → R (Option PyData)} {x : PyData} {r ys : List PyData} {ρ ρ' : Rho} (h : compL f (x :: r) ρ = .ok ys ρ') : ∃ o ρ1 zs, f x ρ = .ok o ρ1 ∧ compL f r ρ1 = .ok zs ρ' ∧ ys = (match o with | some y => y :: zs | none => zs) := by
  simp only [compL] at h
  cases h1 : f x ρ with
  | st => rw [h1] at h; cases h
  | ex c q => rw [h1] at h; cases h
  | ok o ρ1 =>
    rw [h1] at h
    simp only at h
    cases h2 : compL f r ρ1 with
    | st => rw [h2] at h; cases h
    | ex c q => rw [h2] at h; cases h
    | ok zs ρ2 =>
      rw [h2] at h
      cases o with
      | none =>
        cases h
        exact ⟨_, ρ1, _, rfl, h2, rfl⟩
      | some y =>
        cases h
        exact ⟨_, ρ1, _, rfl, h2, rfl⟩
/-- one turn, taken apart -/
theorem turnC_ok {tg : Tg} {cd : List Sm} {α : Type} {el : Rho → R α} {x : PyData} {ρ ρ4 : Rho} {o : Option α} (h : turnC tg cd el x ρ = .ok o ρ4) :
    ∃ ρ1 ρ2 t, bindTg tg x ρ = some ρ1 ∧ evC cd ρ1 = .ok t ρ2 ∧ ((t = true ∧ ∃ d ρ3, el ρ2 = .ok d ρ3 ∧ wipeR (tgSlots tg) ρ3 = some ρ4 ∧ o = some d) ∨ (t = false ∧ wipeR (tgSlots tg) ρ2 = some ρ4 ∧ o = none)) := by
  unfold turnC at h
  cases h1 : bindTg tg x ρ with
  | none => rw [(h1)] at h; cases h
  | some ρ1 =>
    rw [h1] at h
    simp only [optB] at h
    cases h2 : evC cd ρ1 with
    | st => rw [h2] at h; cases h
    | ex c q => rw [h2] at h; cases h
    | ok t ρ2 =>
      rw [h2] at h
      simp only [R.bind] at h
      cases t with
      | false =>
        rw [(if_neg Bool.false_ne_true)] at h
        cases h3 : wipeR (tgSlots tg) ρ2 with
        | none => rw [h3] at h; cases h
        | some ρ5 =>
          rw [h3] at h
          cases h
          exact ⟨ρ1, ρ2, false, rfl, h2, .inr ⟨rfl, h3, rfl⟩⟩
      | true =>
        rw [if_pos rfl] at h
        cases h3 : el ρ2 with
        | st => rw [h3] at h; cases h
        | ex c q => rw [h3] at h; cases h
        | ok d ρ3 =>
          rw [h3] at h
          simp only [R.bind] at h
          cases h4 : wipeR (tgSlots tg) ρ3 with
          | none => rw [h4] at h; cases h
          | some ρ5 =>
            rw [h4] at h
            cases h
            exact ⟨ρ1, ρ2, true, rfl, h2, .inl ⟨rfl, d, ρ3, h3, h4, rfl⟩⟩
/-- a walk, taken apart -/
theorem walkC_at {K : PySem.W.Frag} {H0 : Hp} {W : WX} {σ : L2.St} {S : List Addr} {H : Hp} {ρ1 : Rho} {tg : Tg} {ik : Ik} {os : List Opd} {α : Type} {k : List PyData → Rho → R α} {P : List Addr → Hp → Rho → α → Prop}
    (q : Aft K H0 W σ S H ρ1 (optB (itemsI ρ1 ik os) fun items => optB (wipeR (tgSlots tg) (lockO ρ1 os)) fun ρ2 => match k items ρ2 with
      | .ok a ρ3 => optB (unlockO ρ1 ρ3 os) fun ρ4 => .ok a ρ4
      | _ => .st) P) : ∃ items ρ2 a ρ3 ρ4, itemsI ρ1 ik os = some items ∧ wipeR (tgSlots tg) (lockO ρ1 os) = some ρ2 ∧ k items ρ2 = .ok a ρ3 ∧ unlockO ρ1 ρ3 os = some ρ4 ∧ Aft K H0 W σ S H ρ1 (.ok a ρ4) P := by
  obtain ⟨items, hi, q⟩ := q.opt
  obtain ⟨ρ2, h2, q⟩ := q.opt
  cases hk : k items ρ2 with
  | st => simp only [hk] at q; exact q.elim
  | ex c r => simp only [hk] at q; exact q.elim
  | ok a ρ3 =>
    simp only [hk] at q
    obtain ⟨ρ4, h4, q⟩ := q.opt
    exact ⟨items, ρ2, a, ρ3, ρ4, hi, h2, hk, h4, q⟩
section
variable {K : PySem.W.Frag} {H0 : Hp} {σ σ' : L2.St} {S S' : List Addr} {H H' : Hp} {ρ ρ' : Rho}
theorem OA.wipe {vs : List Nat} {a : Addr} (E : EnvOk K H0 S (wipe σ vs) H ρ) (h : OA σ ρ a) : OA (L2.wipe σ vs) ρ a := by
  obtain ⟨i, s, hs, m, ha⟩ := h
  refine ⟨i, s, hs, m, ?_⟩
  have : ∃ b, (L2.wipe σ vs)[i]? = some (some (.ref b)) := by
    cases s with
    | no => cases m
    | sh _ => cases m
    | mu t d => obtain ⟨b, hb, _⟩ := E.mu i t d (.inl hs); exact ⟨b, hb⟩
    | lk t d => obtain ⟨b, hb, _⟩ := E.mu i t d (.inr hs); exact ⟨b, hb⟩
  obtain ⟨b, hb⟩ := this
  have := (wipe_some hb).1
  rw [ha] at this
  cases this
  exact hb
theorem Evo.sameS (v : Evo K H0 σ S H ρ σ' S' H' ρ') {T : List Addr} (h : ∀ a, a ∈ T ↔ a ∈ S') : Evo K H0 σ S H ρ σ' T H' ρ' :=
  ⟨v.keep, fun a m => v.sub a ((h a).mp m), fun a m q => (h a).mpr (v.old a m q), v.mono, v.ow, v.io, v.there, v.lk, v.env.less (fun a m => (h a).mp m) fun a q => (h a).mpr (v.env.oa q).1⟩
theorem mem_drop {D a : Addr} (h : D ∈ S) : a ∈ D :: S.filter (fun a => decide (a ≠ D)) ↔ a ∈ S := by
  constructor
  · intro m
    rcases List.mem_cons.1 m with e | e
    · exact e ▸ h
    · exact (List.mem_filter.mp e).1
  · intro m
    by_cases e : a = D
    · exact (e ▸ List.mem_cons_self)
    · exact List.mem_cons_of_mem _ (List.mem_filter.mpr ⟨m, decide_eq_true e⟩)
/-- a block that makes a thing at D: where it stands -/
structure Blk (K : PySem.W.Frag) (H0 : Hp) (σ : L2.St) (S1 : List Addr) (H1 : Hp) (ρL : Rho) (vs : List Nat) (D : Addr) (Sc : List Addr) (Hc : Hp) (ρc : Rho) : Prop where
  ev : Evo K H0 σ S1 H1 ρL (wipe σ vs) Sc Hc ρc
  en : EnvOk K (upd H0 D (.lst [])) Sc (wipe σ vs) Hc ρc
  mem : D ∈ Sc
  na : ¬ OA (wipe σ vs) ρc D
theorem Blk.start (E : EnvOk K H0 S σ H ρ) {vs : List Nat} {ρ2 : Rho} (h : wipeR vs ρ = some ρ2) {D : Addr} {o : HO} (hD : H D = none) : Blk K H0 σ S H ρ vs D (D :: S) (upd H D o) ρ2 := by
  have sm := same_upd (o := o) hD
  have q : upd H D o D ≠ none := by rw [upd_same]; exact fun z => nomatch z
  have E1 : EnvOk K H0 (D :: S) σ (upd H D o) ρ := E.more sm hD q
  have e1 : Evo K H0 σ S H ρ σ (D :: S) (upd H D o) ρ := ⟨fun a x h _ => sm a x h, fun a m => by
    rcases List.mem_cons.1 m with e | e
    · exact .inr (e ▸ hD)
    · exact .inl e, fun a m _ => List.mem_cons_of_mem _ m, fun _ h => .inl h, fun _ h => .inl h, fun _ s h m => ⟨rfl, s, h, m⟩, same_there sm, fun _ _ _ h => ⟨h, rfl⟩, E1⟩
  have n1 : ¬ OA σ ρ D := fun h => E.dom D (E.oa h).1 hD
  have e2 := wipe_evo E1 h
  have n2 := (e2.res (o := o) upd_same n1).2
  exact ⟨e1.trans e2, e2.env.res q n2, List.mem_cons_self, n2⟩
end
section
variable {X : Cx} {H0 : Hp} {W : WX} {elt tg iter : Expr} {ifs : List Expr} {mel : Sm} {cd ia : List Sm} {t : Tg} {ik : Ik} {scope : Scope} {own : List (Str × Nat)} {pos : Pos}
def BlkCx (X : Cx) (scope : Scope) (P : Cx → Prop) : Prop := ∀ (s : Shared) (H : Hp) (C : Addr) (cl : List (Str × Addr)) (fp : List Addr), P (X.blk s H scope (compEnvC scope cl C X.env) fp)
/-- [..], as it is read -/
theorem lc_read {σ : L2.St} {H : Hp} {Q : VK} (hv : own.map (·.2) = tgSlots t) (h : tV X.K H0 W (v_cp mel t ik ia cd) σ H Q) :
    tLc (tI X.K H0 W ik ia) (exG fun H0 => tB X.K H0 (bindTg t) (tgSlots t)) (exE fun H0 => tT X.K H0 noW (evC cd)) (exE fun H0 => tV X.K H0 noW mel.v) (own.map (·.2)) σ H Q := by
  rw [hv]
  obtain ⟨S, ρ, E, h⟩ := h
  refine ⟨S, ρ, E, Aft.thn (Aft.bind h) fun S1 H1 ρ1 os ev q => ?_⟩
  obtain ⟨items, ρ2, r, ρ3, ρ4, hi, h2, hk, h4, q⟩ := walkC_at q
  refine ⟨items, hi, fun J ok hw ho D hD => ?_⟩
  -- the list that comes
  cases hc : compL (turnC t cd fun ρ => (mel.v ρ).bind fun d ρ => .ok d.1 ρ) items ρ2 with
  | st => rw [hc] at hk; cases hk
  | ex c z => rw [hc] at hk; cases hk
  | ok ys ρe =>
    rw [hc] at hk
    simp only [R.bind] at hk
    by_cases hb : ys.length ≤ big
    · rw [if_pos hb] at hk
      cases hk
      have EL := (lock_evo ev.env os).env
      refine ⟨fun i m Hc => m = items.length - i ∧ i ≤ items.length ∧ ∃ Sc ρc done rest acc, Blk X.K H0 σ S1 H1 (lockO ρ1 os) (tgSlots t) D Sc Hc ρc ∧ Hc D = some (.lst acc) ∧ GoodL X.K Sc Hc done acc ∧
        compL (turnC t cd fun ρ => (mel.v ρ).bind fun d ρ => .ok d.1 ρ) (items.drop i) ρc = .ok rest ρ3 ∧ ys = done ++ rest, ⟨items.length, rfl, Nat.zero_le _, D :: S1, ρ2, [], ys, [], Blk.start EL h2 hD, upd_same, .nil, by rw [List.drop_zero]; exact hc, rfl⟩, ?_⟩
      · rintro i m Hc ⟨em, hle, Sc, ρc, done, rest, acc, B, hacc, gd, hrun, hys⟩
        have hok := (hw H0).evo EL B.ev ho
        by_cases hlt : i < items.length
        · -- a turn
          have hget : items[i]? = some items[i] := List.getElem?_eq_getElem hlt
          have hdr : items.drop i = items[i] :: items.drop (i + 1) := List.drop_eq_getElem_cons hlt
          rw [hdr] at hrun
          obtain ⟨o, ρn, zs, hf, hr, hrest⟩ := compL_cons hrun
          obtain ⟨ρb, ρt, tt, hbind, htest, hcase⟩ := turnC_ok hf
          refine .inr ⟨(hw H0).go hok hlt, fun Hn => ∃ Sn ρn' done' rest' acc', Blk X.K H0 σ S1 H1 (lockO ρ1 os) (tgSlots t) D Sn Hn ρn' ∧ Hn D = some (.lst acc') ∧ GoodL X.K Sn Hn done' acc' ∧
            compL (turnC t cd fun ρ => (mel.v ρ).bind fun d ρ => .ok d.1 ρ) (items.drop (i + 1)) ρn' = .ok rest' ρ3 ∧ ys = done' ++ rest', fun Hn hn => ⟨items.length - (i + 1), by omega, rfl, hlt, hn⟩, fun x H' hy => ?_⟩
          obtain ⟨sm, gx⟩ := (hw (upd H0 D (.lst []))).yld B.en hok hy hget
          have e0 : Evo X.K (upd H0 D (.lst [])) (wipe σ (tgSlots t)) Sc Hc ρc (wipe σ (tgSlots t)) Sc H' ρc := Evo.same B.en sm
          refine ⟨upd H0 D (.lst []), Sc, ρc, items[i], ρb, e0.env, gx, hbind, fun σ2 e1 k1 l1 => ⟨?_, ?_⟩⟩
          · refine wipe_ext (l1.trans (wipe_length _ _)) fun j hj => ?_
            rw [k1 j hj, wipe_out hj]
          · have hw2 : wipe σ2 (tgSlots t) = wipe σ (tgSlots t) := by
              refine wipe_ext (l1.trans (wipe_length _ _)) fun j hj => ?_
              rw [k1 j hj, wipe_out hj]
            refine ⟨upd H0 D (.lst []), Sc, ρb, e1.env, ?_⟩
            rw [htest]
            intro S3 H3 e2
            have e02 := (e0.trans e1).trans e2
            -- back to the block's own state
            have fin : ∀ {S4 H4 ρ3'}, Evo X.K (upd H0 D (.lst [])) (wipe σ (tgSlots t)) Sc Hc ρc σ2 S4 H4 ρ3' → wipeR (tgSlots t) ρ3' = some ρn → Blk X.K H0 σ S1 H1 (lockO ρ1 os) (tgSlots t) D S4 H4 ρn ∧ H4 D = some (.lst acc) ∧ GoodL X.K S4 H4 done acc := fun {S4 H4 ρ3'} e3 hwp => by
              have e4 := wipe_evo e3.env hwp
              rw [hw2] at e4
              have e5 := e3.trans e4
              obtain ⟨r1, r2⟩ := e5.res hacc B.na
              exact ⟨⟨B.ev.trans e5.unres, e5.env, e5.old D B.mem (by rw [upd_same]; exact fun z => nomatch z), r2⟩, r1, e5.goodL B.en gd⟩
            rcases hcase with ⟨et, d, ρ3', hel, hwp, eo⟩ | ⟨et, hwp, eo⟩
            · subst et eo
              refine iteT ?_
              refine ⟨upd H0 D (.lst []), S3, ρt, e2.env, ?_⟩
              cases hm : mel.v ρt with
              | st => rw [hm] at hel; cases hel
              | ex c z => rw [hm] at hel; cases hel
              | ok dv ρ5 =>
                rw [hm] at hel
                simp only [R.bind] at hel
                cases hel
                intro S4 H4 e3 y gy _
                obtain ⟨b1, b3, b4⟩ := fin (e02.trans e3) hwp
                have hln : done.length + 1 ≤ ys.length := by
                  rw [hys, hrest, List.length_append, List.length_cons]
                  omega
                refine ⟨acc, b3, ?_, S4, ρn, done ++ [dv.1], zs, acc ++ [y], ?_, upd_same, ?_, hr, ?_⟩
                · rw [b4.length, ← big_eq]
                  omega
                · exact ⟨b1.ev.put hD b1.mem b3 trivial b1.na, b1.en.put b1.mem b3 trivial b1.na, b1.mem, b1.na⟩
                · exact goodL_put b1.mem b3 trivial (b4.append (.cons gy .nil))
                · rw [hys, hrest]
                  simp
            · subst et eo
              refine iteF ?_
              obtain ⟨b1, b3, b4⟩ := fin e02 hwp
              exact ⟨S3, ρn, done, zs, acc, b1, b3, b4, hr, by rw [hys, hrest]⟩
        · -- the end
          have ei : i = items.length := by omega
          subst ei
          rw [List.drop_length] at hrun
          simp only [compL] at hrun
          cases hrun
          refine .inl ⟨(hw H0).stop hok, ?_⟩
          have e1 := B.ev.unwipe EL (fun i t d h => rfl)
          have na : ¬ OA σ _ D := fun h => B.na (OA.wipe B.en h)
          have e2 := unlock_evo ev.env (e1.drop EL hD na) h4
          have e3 := unlock_evo ev.env (e1.sameS fun a => mem_drop B.mem) h4
          have nm : D ∉ Sc.filter fun a => decide (a ≠ D) := fun h => by simpa using (List.mem_filter.mp h).2
          rw [List.append_nil] at hys
          subst hys
          refine q _ Hc e2 (.ref D) ?_ fun _ => ⟨⟨D, rfl, ev.none hD, nm, acc, hacc, GoodL.chg (Chg.less fun a => (mem_drop B.mem).mp) _ _ gd⟩, fun p ep => ?_⟩
          · simp only [Good]
            exact ⟨D, acc, rfl, .inl ⟨nm, .inl hacc⟩, GoodL.chg (Chg.less fun a h => (List.mem_filter.mp h).1) _ _ gd⟩
          · cases ep
            exact e3.env
    · rw [if_neg hb] at hk
      cases hk
theorem sv_cp {cf : CT} (hc : X.calm = true) (hN : X.N.Nodup) (hi : PI X tg iter (tI X.K H0 W ik ia)) (ok : BlkOk X.N X.env.scope scope own) (hv : own.map (·.2) = tgSlots t)
    (hg : BlkCx X scope fun X' => ∀ H0, PG X' tg (tB X'.K H0 (bindTg t) (tgSlots t))) (hcd : BlkCx X scope fun X' => ∀ H0, SVs X' H0 noW ifs cd) (hl : cd.length ≤ 1) (he : BlkCx X scope fun X' => ∀ H0, SV X' H0 noW elt mel)
    (hs : ∀ x, foldedSetIterable iter X.env x = pure x) : SV X H0 W (.ListComp elt [⟨tg, iter, ifs, 0⟩] scope pos) (MP.mk (v_cp mel t ik ia cd)) :=
  SV.mk' (PE.weak (pe_lc hc hN hi ok (fun s H C cl fp => PG.ex (hg s H C cl fp)) (fun s H C cl fp => PTs.ex fun H0 => pts_of (hcd s H C cl fp H0) hl) (fun s H C cl fp => PE.ex fun H0 => (he s H C cl fp H0).v) hs) fun σ H Q h => lc_read hv h) fun _ => rfl
end
end MP
end
section
set_option Elab.async false
set_option linter.all false
set_option autoImplicit false
set_option maxRecDepth 100000
set_option maxHeartbeats 4000001
namespace MP
open PySem.Spec PyProof.Rows L2 PySem

/-- what is wanted behind a statement's meaning -/
def wS (K : PySem.W.Frag) (H0 : Hp) (W : WX) (D : Ends) (σ : L2.St) (S : List Addr) (H : Hp) (ρ : Rho) : R Fl → Prop
  | .ok .nx ρ' => ∀ σ' S' H', Evo K H0 σ S H ρ σ' S' H' ρ' → D.nx σ' H'
  | .ok (.rt d fr) ρ' => ∀ σ' S' H' v, Evo K H0 σ S H ρ σ' S' H' ρ' → Good K S' H' d v → (fr = true → FrE K H0 S' H0 H' σ' ρ' d v) → D.rt v H'
  | .ex c ρ' => ∀ σ' S' H', Evo K H0 σ S H ρ σ' S' H' ρ' → excW K W c σ' H'
  | .st => False
def tS (K : PySem.W.Frag) (H0 : Hp) (W : WX) (f : Rho → R Fl) : TS := fun D σ H => ∃ S ρ, EnvOk K H0 S σ H ρ ∧ wS K H0 W D σ S H ρ (f ρ)
section
variable {K : PySem.W.Frag} {H0 : Hp} {W : WX} {D : Ends} {σ σ1 : L2.St} {S S1 : List Addr} {H H1 : Hp} {ρ ρ1 : Rho}
theorem wS.bind {α : Type} {r : R α} {g : α → Rho → R Fl} (h : wS K H0 W D σ S H ρ (r.bind g)) : Aft K H0 W σ S H ρ r fun _ _ ρ1 a => wS K H0 W D σ S H ρ (g a ρ1) := by
  cases r with
  | st => exact h
  | ex c ρ' => exact fun S' H' ev => h σ S' H' ev
  | ok a ρ' => exact fun _ _ _ => h
theorem wS.from {r : R Fl} (ev : Evo K H0 σ S H ρ σ1 S1 H1 ρ1) (h : wS K H0 W D σ S H ρ r) : wS K H0 W D σ1 S1 H1 ρ1 r := by
  match r, h with
  | .ok .nx ρ', h => exact fun σ' S' H' e => h σ' S' H' (ev.trans e)
  | .ok (.rt d fr) ρ', h => exact fun σ' S' H' v e g f => h σ' S' H' v (ev.trans e) g f
  | .ex c ρ', h => exact fun σ' S' H' e => h σ' S' H' (ev.trans e)
theorem wS.opt {α : Type} {x : Option α} {f : α → R Fl} (h : wS K H0 W D σ S H ρ (optB x f)) : ∃ a, x = some a ∧ wS K H0 W D σ S H ρ (f a) := by
  cases x with
  | none => exact h.elim
  | some a => exact ⟨a, rfl, h⟩
/-- what was made here is owned -/
theorem evo_own {σ0 : L2.St} (E : EnvOk K H0 S σ0 H ρ) (ev : Evo K H0 σ0 S H ρ σ S1 H1 ρ1) {i : Nat} {d : PyData} {v : V} {ρ2 : Rho} (f : FrE K H0 S1 H H1 σ ρ1 d v) (h : setSl i (.mu true d) ρ1 = some ρ2) : ∃ S2, Evo K H0 σ0 S H ρ (σ.set i (some v)) S2 H1 ρ2 ∧ ∀ p, v = .ref p → S2 = p :: S1 := by
  obtain ⟨⟨p, e, hp, hn, hc⟩, hE⟩ := f
  subst e
  have E2 := hE p rfl
  obtain ⟨e, hi, hl, hm⟩ := setSl_eq h
  subst e
  have hi' : i < σ.length := ev.env.len ▸ hi
  have sg : ∀ {j : Nat}, j ≠ i → (σ.set i (some (V.ref p)))[j]? = σ[j]? := fun h => List.getElem?_set_ne (Ne.symm h)
  have si : (σ.set i (some (V.ref p)))[i]? = some (some (.ref p)) := List.getElem?_set_self hi'
  have noP : ¬ OA σ ρ1 p := fun h => hn (ev.env.oa h).1
  have h0 : H0 p = none := by
    by_cases q : H0 p = none
    · exact q
    · exact absurd hp (E.ent p q)
  refine ⟨p :: S1, ⟨ev.keep, fun a m => ?_, fun a m q => List.mem_cons_of_mem _ (ev.old a m q), fun a ⟨j, t, d', h, hs⟩ => ?_, fun a ⟨j, s, h, m, hs⟩ => ?_, fun j s h m => ?_, ev.there, fun j t d' h => ?_, ?_⟩, fun q e => by cases e; rfl⟩
  · rcases List.mem_cons.mp m with q | q
    · exact .inr (q ▸ hp)
    · exact ev.sub a q
  · rcases set_get h with ⟨ej, _⟩ | ⟨n, h⟩
    · subst ej
      rw [si] at hs
      cases hs
      exact .inr hp
    · rw [sg n] at hs
      exact ev.mono a ⟨j, t, d', h, hs⟩
  · rcases set_get h with ⟨ej, _⟩ | ⟨n, h⟩
    · subst ej
      rw [si] at hs
      cases hs
      exact .inr hp
    · rw [sg n] at hs
      exact ev.ow a ⟨j, s, h, m, hs⟩
  · obtain ⟨q1, s', q2, q3⟩ := ev.io j s h m
    have n : j ≠ i := fun e => by
      subst e
      cases s' with
      | no => cases q3
      | sh _ => cases q3
      | lk t d => exact hl t d q2
      | mu t d =>
        cases t with
        | true => cases q3
        | false => exact hm d q2
    exact ⟨(sg n).trans q1, s', by rw [List.getElem?_set_ne (Ne.symm n)]; exact q2, q3⟩
  · obtain ⟨q1, q2⟩ := ev.lk j t d' h
    have n : j ≠ i := fun e => hl t d' (e ▸ q1)
    rw [List.getElem?_set_ne (Ne.symm n)]
    exact ⟨q1, (sg n).trans q2⟩
  · refine ⟨by rw [List.length_set, List.length_set]; exact E2.len, fun j d' h => ?_, fun j t d' h => ?_, fun j k s t a hjk h1 h2 m1 m2 q1 q2 => ?_, E2.dom, E2.ent⟩
    · rcases set_get h with ⟨_, e⟩ | ⟨n, h⟩
      · cases e
      · obtain ⟨x, hx, g⟩ := E2.sh j d' h
        exact ⟨x, by rw [sg n]; exact hx, g⟩
    · by_cases n : j = i
      · subst n
        rw [List.getElem?_set_self hi] at h
        rcases h with h | h
        · cases h
          exact ⟨p, si, List.mem_cons_self, hc, fun _ => h0⟩
        · cases h
      · rw [List.getElem?_set_ne (Ne.symm n)] at h
        obtain ⟨a, ha, r⟩ := E2.mu j t d' h
        exact ⟨a, by rw [sg n]; exact ha, r⟩
    · rcases set_get h1 with ⟨ej, _⟩ | ⟨nj, h1'⟩
      · rcases set_get h2 with ⟨ek, _⟩ | ⟨nk, h2'⟩
        · exact hjk (ej.trans ek.symm)
        · rw [ej, si] at q1
          cases q1
          rw [sg nk] at q2
          exact noP ⟨k, t, h2', m2, q2⟩
      · rcases set_get h2 with ⟨ek, _⟩ | ⟨nk, h2'⟩
        · rw [ek, si] at q2
          cases q2
          rw [sg nj] at q1
          exact noP ⟨j, s, h1', m1, q1⟩
        · rw [sg nj] at q1
          rw [sg nk] at q2
          exact E2.apart j k s t a hjk h1' h2' m1 m2 q1 q2
/-- an owned thing changed -/
theorem chg_evo (E : EnvOk K H0 S σ H ρ) {i : Nat} {t : Bool} {d d' : PyData} {a : Addr} {o : HO} (hi : ρ[i]? = some (.mu t d)) (ha : σ[i]? = some (some (.ref a))) (hc : Cont K S (upd H a o) a d') : Evo K H0 σ S H ρ σ S (upd H a o) (ρ.set i (.mu t d')) := by
  obtain ⟨a', ha', hS, hc0, hf⟩ := E.mu i t d (.inl hi)
  rw [ha] at ha'
  cases ha'
  have hlt : i < ρ.length := (List.getElem?_eq_some_iff.mp hi).1
  obtain ⟨o0, ho0, m0⟩ := hc0.mut
  have c : Chg S S H (upd H a o) (fun b => b = a) := ⟨fun b x h n => by rw [upd_ne n]; exact h, fun b e => by subst e; exact ⟨hS, o0, ho0, m0⟩, fun _ h => .inl h⟩
  have th : ∀ b, H b ≠ none → upd H a o b ≠ none := fun b h => by
    by_cases ea : b = a
    · rw [ea, upd_same]; exact fun z => nomatch z
    · rwa [upd_ne ea]
  have kind : ∀ j s, (ρ.set i (.mu t d'))[j]? = some s → isMu s = true → ∃ s', ρ[j]? = some s' ∧ isMu s' = true := fun j s h m => by
    rcases set_get h with ⟨e, _⟩ | ⟨_, h⟩
    · subst e; exact ⟨_, hi, rfl⟩
    · exact ⟨s, h, m⟩
  refine ⟨fun b x h n => ?_, fun _ h => .inl h, fun _ h _ => h, fun b ⟨j, t', d2, h, hs⟩ => ?_, fun b ⟨j, s, h, m, hs⟩ => .inl (let ⟨s', h1, h2⟩ := kind j s h m; ⟨j, s', h1, h2, hs⟩), fun j s h m => ⟨rfl, ?_⟩, th, fun j t' d2 h => ⟨?_, rfl⟩, ?_⟩
  · have ea : b ≠ a := fun e => n (by subst e; exact ⟨i, t, d, hi, ha⟩)
    rw [upd_ne ea]
    exact h
  · rcases set_get h with ⟨ej, _⟩ | ⟨_, h⟩
    · subst ej
      exact .inl ⟨j, t, d, hi, hs⟩
    · exact .inl ⟨j, t', d2, h, hs⟩
  · by_cases e : j = i
    · subst e
      rw [hi] at h
      cases h
      refine ⟨_, List.getElem?_set_self hlt, ?_⟩
      cases t with
      | true => cases m
      | false => rfl
    · exact ⟨s, by rw [List.getElem?_set_ne (Ne.symm e)]; exact h, m⟩
  · have n : j ≠ i := fun e => by
      subst e
      rw [hi] at h
      cases h
    rw [List.getElem?_set_ne (Ne.symm n)]
    exact h
  · refine ⟨by rw [List.length_set]; exact E.len, fun j d2 h => ?_, fun j t' d2 h => ?_, fun j k s t2 b hjk h1 h2 m1 m2 q1 q2 => ?_, fun b m => th b (E.dom b m), fun b m => th b (E.ent b m)⟩
    · rcases set_get h with ⟨_, e⟩ | ⟨_, h⟩
      · cases e
      · obtain ⟨x, hx, g⟩ := E.sh j d2 h
        exact ⟨x, hx, Good.chg c d2 x g⟩
    · by_cases n : j = i
      · subst n
        rw [List.getElem?_set_self hlt] at h
        rcases h with h | h
        · cases h
          exact ⟨a, ha, hS, hc, hf⟩
        · cases h
      · rw [List.getElem?_set_ne (Ne.symm n)] at h
        obtain ⟨b, hb, hbS, hbc, hbf⟩ := E.mu j t' d2 h
        refine ⟨b, hb, hbS, Cont.chg c (fun e => ?_) hbc, hbf⟩
        subst e
        rcases h with h | h
        · exact E.apart j i _ _ _ n h hi rfl rfl hb ha
        · exact E.apart j i _ _ _ n h hi rfl rfl hb ha
    · obtain ⟨s', hs', ms'⟩ := kind j s h1 m1
      obtain ⟨t3, ht', mt'⟩ := kind k t2 h2 m2
      exact E.apart j k s' t3 b hjk hs' ht' ms' mt' q1 q2
end
section
variable {X : Cx} {H0 : Hp} {W : WX} {st : Stmt} {sts a b : List Stmt} {e c : Expr} {m mc : Sm} {f g : Rho → R Fl} {pos p : Pos} {om : List Nat}
/-! ### suites -/
theorem ss_nil : PSs X [] (tS X.K H0 W fun ρ => .ok .nx ρ) := PSs.weak pss_nil fun D σ H ⟨S, ρ, E, h⟩ => h σ S H (Evo.refl E)
theorem ss_cons (h1 : PS X st (tS X.K H0 W f)) (h2 : PSs X sts (tS X.K H0 W g)) : PSs X (st :: sts) (tS X.K H0 W fun ρ => (f ρ).bind fun fl ρ1 => match fl with | .nx => g ρ1 | fl => .ok fl ρ1) := by
  refine PSs.weak (pss_cons h1 h2) fun D σ H ⟨S, ρ, E, h⟩ => ⟨S, ρ, E, ?_⟩
  cases hf : f ρ with
  | st => simp only [hf] at h; exact h
  | ex c ρ1 => simp only [hf] at h; exact h
  | ok fl ρ1 =>
    simp only [hf] at h
    cases fl with
    | nx => exact fun σ' S' H' ev => ⟨S', ρ1, ev.env, wS.from ev h⟩
    | rt d fr => exact h
theorem ss_pass : PS X (.Pass pos) (tS X.K H0 W fun ρ => .ok .nx ρ) := PS.weak ps_pass fun D σ H ⟨S, ρ, E, h⟩ => h σ S H (Evo.refl E)
theorem ss_ite (hc : SV X H0 W c mc) (ha : PSs X a (tS X.K H0 W f)) (hb : PSs X b (tS X.K H0 W g)) : PS X (.If c a b pos) (tS X.K H0 W fun ρ => (mc.t ρ).bind fun t ρ1 => if t then f ρ1 else g ρ1) := by
  refine PS.weak (ps_if hc.t ha hb) fun D σ H ⟨S, ρ, E, h⟩ => ⟨S, ρ, E, (wS.bind h).thn fun S1 H1 ρ1 t ev q => ?_⟩
  cases t with
  | true => exact iteT ⟨S1, ρ1, ev.env, wS.from ev q⟩
  | false => exact iteF ⟨S1, ρ1, ev.env, wS.from ev q⟩
theorem ss_exp (he : SV X H0 W e m) (hs : swapsWith e none pos.line X.env = pure false) : PS X (.Expr e pos) (tS X.K H0 W fun ρ => (m.v ρ).bind fun _ ρ1 => .ok .nx ρ1) :=
  PS.weak (ps_expr he.v hs) fun D σ H ⟨S, ρ, E, h⟩ => ⟨S, ρ, E, (wS.bind h).thn fun S1 H1 ρ1 d ev q v g fr => q σ S1 H1 ev⟩
/-! ### return -/
theorem ss_ret (he : SV X H0 W e m) : PS X (.Return (some e) pos) (tS X.K H0 W fun ρ => (m.v ρ).bind fun d ρ1 => .ok (.rt d.1 d.2) ρ1) := by
  refine PS.weak (ps_ret he.v) fun D σ H ⟨S, ρ, E, h⟩ => ⟨S, ρ, E, (wS.bind h).thn fun S1 H1 ρ1 d ev q v g fr => q σ S1 H1 v ev g fun z => ?_⟩
  obtain ⟨⟨p, e, hp, r⟩, hE⟩ := fr z
  exact ⟨⟨p, e, ev.ent E hp, r⟩, hE⟩
/-- return of a name: what is owned is given away -/
def retV (i : Nat) (ρ : Rho) : R Fl := match ρ[i]? with
  | some (.mu true d) => if frzOk d = true then .ok (.rt d true) (ρ.set i .no) else .st
  | some (.sh d) => .ok (.rt d false) ρ
  | _ => .st
theorem ss_retV {i : Nat} (he : PE X e (tVar i)) : PS X (.Return (some e) pos) (tS X.K H0 W (retV i)) := by
  refine PS.weak (ps_ret he) fun D σ H ⟨S, ρ, E, h⟩ => ?_
  unfold retV at h
  cases hi : ρ[i]? with
  | none => simp only [hi] at h; exact h.elim
  | some s =>
    simp only [hi] at h
    cases s with
    | no => exact h.elim
    | lk _ _ => exact h.elim
    | sh d =>
      obtain ⟨v, hv, g⟩ := E.sh i d hi
      exact ⟨v, hv, h σ S H v (Evo.refl E) g fun z => nomatch z⟩
    | mu t d =>
      cases t with
      | false => exact h.elim
      | true =>
        simp only at h
        by_cases f : frzOk d = true
        · rw [if_pos f] at h
          obtain ⟨a, ha, hS, hc, hf⟩ := E.mu i true d (.inl hi)
          obtain ⟨S', ev, g, hsub, hsup, hna⟩ := E.frz hi ha f
          have hlt : i < ρ.length := (List.getElem?_eq_some_iff.mp hi).1
          have na : a ∉ S' := hna
          have e2 : Evo X.K H0 σ S' H (ρ.set i (.sh d)) (σ.set i (some (.ref a))) S' H ((ρ.set i (.sh d)).set i .no) := EnvOk.set ev.env (by rw [List.length_set]; exact hlt) (fun t d' q => by rw [List.getElem?_set_self hlt] at q; cases q) (fun d' q => by rw [List.getElem?_set_self hlt] at q; cases q) (.inl rfl)
          have es : σ.set i (some (.ref a)) = σ := by
            apply List.ext_getElem?
            intro j
            by_cases e : j = i
            · subst e
              rw [List.getElem?_set_self (E.len ▸ hlt), ha]
            · rw [List.getElem?_set_ne (Ne.symm e)]
          rw [es, List.set_set] at e2
          refine ⟨_, ha, h σ S' H (.ref a) (ev.trans e2) g fun _ => ⟨⟨a, rfl, hf rfl, na, ?_⟩, fun p ep => ?_⟩⟩
          · exact Cont.chg (Chg.less fun b m => (List.mem_cons.mp m).elim (fun q => q ▸ hS) (hsub b)) (fun h => h) hc
          · cases ep
            -- no slot but i was at a
            have E3 : EnvOk X.K H0 S σ H (ρ.set i .no) := (by
              have := EnvOk.set (o := some (.ref a)) (s := .no) E hlt (fun t d' q => by rw [hi] at q; cases q) (fun d' q => by rw [hi] at q; cases q) (.inl rfl)
              rw [es] at this
              exact this.env)
            exact E3.less (fun b m => (List.mem_cons.mp m).elim (fun q => q ▸ hS) (hsub b)) fun b hb => by
              rcases hsup b (E3.oa hb).1 with q | q
              · exact q ▸ List.mem_cons_self
              · exact List.mem_cons_of_mem _ q
        · rw [if_neg f] at h
          exact h.elim
/-! ### name = e -/
def asgF (om : List Nat) (i : Nat) (m : Sm) : Rho → R Fl := fun ρ => (m.v ρ).bind fun d ρ1 => optB (own1 om i d ρ1) fun ρ2 => .ok .nx ρ2
theorem asg_weak {D : Ends} {σ : L2.St} {H : Hp} {i : Nat} (h : tS X.K H0 W (asgF om i m) D σ H) : tAsg (tV X.K H0 W m.v) (gName i) D σ H := by
  obtain ⟨S, ρ, E, h⟩ := h
  refine ⟨S, ρ, E, (wS.bind h).thn fun S1 H1 ρ1 d ev q v g fr => ?_⟩
  obtain ⟨ρ2, h2, q⟩ := wS.opt q
  unfold own1 at h2
  by_cases hb : (om.contains i && d.2) = true
  · rw [if_pos hb] at h2
    rw [Bool.and_eq_true] at hb
    obtain ⟨S2, e2, _⟩ := evo_own E ev (fr hb.2) h2
    exact q _ S2 H1 e2
  · rw [if_neg hb] at h2
    exact q _ S1 H1 (ev.trans (set_sh ev.env h2 g))
theorem ss_asg {i : Nat} {x : Str} {p' : Pos} (hN : X.N.Nodup) (hi : X.N[i]? = some x) (hx : Loc X.env.scope x) (hf : X.fn x = true ∨ X.env.scope.names.lookup x = some .local) (he : SV X H0 W e m) (hs : swapsWith e (some (.Name x p')) pos.line X.env = pure false) :
    PS X (.Assign [.Name x p'] e pos) (tS X.K H0 W (asgF om i m)) := PS.weak (ps_set hN hi hx he.v hs hf) fun D σ H h => asg_weak h
/-! ### a, (b, c) = e -/
theorem ss_asgT {tg : Expr} {t : Tg} (he : SV X H0 W e m) (hg : PG X tg (tB X.K H0 (bindTg t) (tgSlots t))) (hs : swapsWithSole [tg] e pos.line X.env = pure false) (hw : swappedStores [tg] e X.env = pure none) (h1 : (assignEach [tg] X.env).map (·.2) = [assign tg X.env]) :
    PS X (.Assign [tg] e pos) (tS X.K H0 W fun ρ => (m.v ρ).bind fun d ρ1 => optB (bindTg t d.1 ρ1) fun ρ2 => .ok .nx ρ2) := by
  refine PS.weak (ps_asg he.v hg hs hw h1) fun D σ H ⟨S, ρ, E, h⟩ => ⟨S, ρ, E, (wS.bind h).thn fun S1 H1 ρ1 d ev q v g fr => ?_⟩
  obtain ⟨ρ2, h2, q⟩ := wS.opt q
  exact ⟨S1, ρ1, d.1, ρ2, ev.env, g, h2, fun σ' e2 _ _ => q σ' S1 H1 (ev.trans e2)⟩
/-! ### x += e -/
theorem ss_aug {i : Nat} {x : Str} {p' : Pos} {op : Operator} {o : Op} (ho : (op = .Add ∧ o = .add) ∨ (op = .Sub ∧ o = .sub)) (hN : X.N.Nodup) (hi : X.N[i]? = some x) (hx : Loc X.env.scope x) (hf : X.fn x = true ∨ X.env.scope.names.lookup x = some .local) (he : SV X H0 W e m) :
    PS X (.AugAssign (.Name x p') op e pos) (tS X.K H0 W fun ρ => match ρ[i]? with
      | some (.sh (.int a)) => (m.v ρ).bind fun d ρ1 => optB (augI o a d.1) fun z => optB (setSl i (.sh z) ρ1) fun ρ2 => .ok .nx ρ2
      | _ => .st) := by
  have key : ∀ {k : Int → Int → Int}, PIp X op (ipI k) → (∀ a b, augI o a (.int b) = some (.int (k a b))) → PS X (.AugAssign (.Name x p') op e pos) (tS X.K H0 W fun ρ => match ρ[i]? with
      | some (.sh (.int a)) => (m.v ρ).bind fun d ρ1 => optB (augI o a d.1) fun z => optB (setSl i (.sh z) ρ1) fun ρ2 => .ok .nx ρ2
      | _ => .st) := fun {k} hp hk => by
    refine PS.weak (ps_aug hN hi hx he.v hp hf) fun D σ H ⟨S, ρ, E, h⟩ => ?_
    cases hr : ρ[i]? with
    | none => simp only [hr] at h; exact h.elim
    | some s =>
      simp only [hr] at h
      split at h
      · rename_i a heq
        cases heq
        obtain ⟨v, hv, g⟩ := E.sh i _ hr
        simp only [Good] at g
        subst g
        refine ⟨_, hv, S, ρ, E, (wS.bind h).thn fun S1 H1 ρ1 d ev q y gy fr => ?_⟩
        obtain ⟨z, hz, q0⟩ := wS.opt q
        obtain ⟨ρ2, h2, q1⟩ := wS.opt q0
        clear q q0
        match d, hz, gy with
        | (.int b, _), hz, gy =>
          simp only [Good] at gy
          subst gy
          rw [hk] at hz
          cases hz
          exact ⟨a, b, rfl, rfl, q1 _ S1 H1 (ev.trans (set_sh ev.env h2 (by simp only [Good])))⟩
        | (.none, _), hz, gy => simp only [augI] at hz; cases hz
        | (.bool _, _), hz, gy => simp only [augI] at hz; cases hz
        | (.str _, _), hz, gy => simp only [augI] at hz; cases hz
        | (.list _, _), hz, gy => simp only [augI] at hz; cases hz
        | (.tuple _, _), hz, gy => simp only [augI] at hz; cases hz
        | (.dict _, _), hz, gy => simp only [augI] at hz; cases hz
      · exact h.elim
  rcases ho with ⟨e1, e2⟩ | ⟨e1, e2⟩
  · subst e1 e2
    exact key ip_add fun a b => rfl
  · subst e1 e2
    exact key ip_sub fun a b => rfl
end
end MP
end
section
set_option Elab.async false
set_option linter.all false
set_option autoImplicit false
set_option maxRecDepth 100000
set_option maxHeartbeats 4000001
/-! PROVENANCE of MiniSt2: parts of this text began as rows of the library's HandS/List and were then rewritten; the plan is the library's -/
namespace MP
open PySem.Spec PyProof.Rows L2 PySem

section
variable {K : PySem.W.Frag} {H0 : Hp} {W : WX} {D : Ends} {σ σ' : L2.St} {S S' T : List Addr} {H H' : Hp} {ρ ρ' ρ2 : Rho}
theorem unlock_env (E : EnvOk K H0 S σ H ρ) {os : List Opd} (v : Evo K H0 σ S H (lockO ρ os) σ' S' H' ρ') (h : unlockO ρ ρ' os = some ρ2) (E' : EnvOk K H0 T σ' H' ρ') : EnvOk K H0 T σ' H' ρ2 := by
  have v' : Evo K H0 σ S H (lockO ρ os) σ' T H' ρ' → EnvOk K H0 T σ' H' ρ2 := fun q => (unlock_evo E q h).env
  -- by the slots alone
  unfold unlockO at h
  split at h
  · rename_i i
    cases hi : ρ[i]? with
    | none => simp only [hi, Option.some.injEq] at h; exact h ▸ E'
    | some s =>
      cases s with
      | mu t d =>
        simp only [hi] at h
        have el : lockO ρ [.slot i] = ρ.set i (.lk t d) := by simp only [lockO, hi]
        rw [el] at v
        have hlt : i < ρ.length := (List.getElem?_eq_some_iff.mp hi).1
        obtain ⟨hl, hσ⟩ := v.lk i t d (List.getElem?_set_self hlt)
        simp only [hl, Option.some.injEq] at h
        subst h
        have kind : ∀ j s, (ρ'.set i (.mu t d))[j]? = some s → isMu s = true → ∃ s', ρ'[j]? = some s' ∧ isMu s' = true := fun j s h m => by
          rcases set_get h with ⟨e, _⟩ | ⟨_, h⟩
          · subst e; exact ⟨_, hl, rfl⟩
          · exact ⟨s, h, m⟩
        refine ⟨by rw [List.length_set]; exact E'.len, fun j d' h => ?_, fun j t' d' h => ?_, fun j k s t b hjk h1 h2 m1 m2 q1 q2 => ?_, E'.dom, E'.ent⟩
        · rcases set_get h with ⟨_, e⟩ | ⟨_, h⟩
          · cases e
          · exact E'.sh j d' h
        · rcases h with h | h
          · rcases set_get h with ⟨e1, e⟩ | ⟨_, h⟩
            · cases e
              subst e1
              exact E'.mu j _ _ (.inr hl)
            · exact E'.mu j t' d' (.inl h)
          · rcases set_get h with ⟨_, e⟩ | ⟨_, h⟩
            · cases e
            · exact E'.mu j t' d' (.inr h)
        · obtain ⟨s', hs', ms'⟩ := kind j s h1 m1
          obtain ⟨t', ht', mt'⟩ := kind k t h2 m2
          exact E'.apart j k s' t' b hjk hs' ht' ms' mt' q1 q2
      | no => simp only [hi, Option.some.injEq] at h; exact h ▸ E'
      | sh _ => simp only [hi, Option.some.injEq] at h; exact h ▸ E'
      | lk _ _ => simp only [hi, Option.some.injEq] at h; exact h ▸ E'
  · simp only [Option.some.injEq] at h
    exact h ▸ E'
theorem forL_cons {f : PyData → Rho → R Fl} {x : PyData} {r : List PyData} : forL f (x :: r) ρ = match f x ρ with
    | .ok .nx ρ1 => forL f r ρ1
    | o => o := rfl
end
section
variable {X : Cx} {H0 : Hp} {W : WX} {tg iter e c : Expr} {body : List Stmt} {m mc : Sm} {ia : List Sm} {t : Tg} {ik : Ik} {f : Rho → R Fl} {pos : Pos} {om : List Nat}
/-! ### for -/
def turnF (t : Tg) (f : Rho → R Fl) (x : PyData) (ρ : Rho) : R Fl := optB (bindTg t x ρ) fun ρ' => f ρ'
def forF (t : Tg) (ik : Ik) (ia : List Sm) (f : Rho → R Fl) : Rho → R Fl := fun ρ => (evK ik ia ρ).bind fun os ρ1 => optB (itemsI ρ1 ik os) fun items =>
  match forL (turnF t f) items (lockO ρ1 os) with
  | .ok .nx ρ2 => optB (unlockO ρ1 ρ2 os) fun ρ3 => .ok .nx ρ3
  | .ok (.rt d fr) ρ2 => optB (unlockO ρ1 ρ2 os) fun ρ3 => .ok (.rt d fr) ρ3
  | .ex c ρ2 => .ex c ρ2
  | .st => .st
theorem ss_for (own : PassesOwn (model X.prog X.w) X.A X.env X.xe) (hc : X.calm = true) (hi : PI X tg iter (tI X.K H0 W ik ia)) (hg : PG X tg (tB X.K H0 (bindTg t) (tgSlots t))) (hb : PSs X body (tS X.K H0 W f)) (hs : ∀ x, foldedSetIterable iter X.env x = pure x) :
    PS X (.For tg iter body [] pos) (tS X.K H0 W (forF t ik ia f)) := by
  refine PS.weak (ps_for own hc hi hg hb hs) fun D σ H ⟨S, ρ, E, h⟩ => ⟨S, ρ, E, (wS.bind h).thn fun S1 H1 ρ1 os ev q => ?_⟩
  obtain ⟨items, hi, q⟩ := wS.opt q
  refine ⟨items, hi, fun J ok hw ho => ?_⟩
  have q := wS.from ev q
  have EL := lock_evo ev.env os
  refine ⟨fun i m σc Hc => m = items.length - i ∧ i ≤ items.length ∧ ∃ Sc ρc, Evo X.K H0 σ S1 H1 (lockO ρ1 os) σc Sc Hc ρc ∧ forL (turnF t f) (items.drop i) ρc = forL (turnF t f) items (lockO ρ1 os), ⟨items.length, rfl, Nat.zero_le _, S1, _, Evo.refl EL.env, rfl⟩, ?_⟩
  rintro i m σc Hc ⟨em, hle, Sc, ρc, e1, hrun⟩
  have hok := (hw H0).evo EL.env e1 ho
  by_cases hlt : i < items.length
  · have hget : items[i]? = some items[i] := List.getElem?_eq_getElem hlt
    have hdr : items.drop i = items[i] :: items.drop (i + 1) := List.drop_eq_getElem_cons hlt
    rw [hdr, forL_cons] at hrun
    refine .inr ⟨(hw H0).go hok hlt, fun σn Hn => ∃ Sn ρn, Evo X.K H0 σ S1 H1 (lockO ρ1 os) σn Sn Hn ρn ∧ forL (turnF t f) (items.drop (i + 1)) ρn = forL (turnF t f) items (lockO ρ1 os), fun σn Hn hn => ⟨items.length - (i + 1), by omega, rfl, hlt, hn⟩, fun x H' hy => ?_⟩
    obtain ⟨sm, gx⟩ := (hw H0).yld e1.env hok hy hget
    have e2 := e1.trans (Evo.same e1.env sm)
    unfold turnF at hrun
    rw [show forL (fun x ρ => optB (bindTg t x ρ) fun ρ' => f ρ') = forL (turnF t f) from rfl] at hrun
    cases hbd : bindTg t items[i] ρc with
    | none =>
      rw [hbd] at hrun
      simp only [optB] at hrun
      rw [← hrun] at q
      exact q.elim
    | some ρb =>
      rw [hbd] at hrun
      simp only [optB] at hrun
      refine ⟨Sc, ρc, items[i], ρb, e2.env, gx, hbd, fun σ2 e3 _ _ => ⟨Sc, ρb, e3.env, ?_⟩⟩
      have e4 := e2.trans e3
      cases hx : f ρb with
      | st =>
        rw [hx] at hrun
        rw [← hrun] at q
        exact q.elim
      | ex c ρn =>
        rw [hx] at hrun
        rw [← hrun] at q
        exact fun σ' S' H'' e5 => q σ' S' H'' (EL.trans (e4.trans e5))
      | ok fl ρn =>
        rw [hx] at hrun
        cases fl with
        | nx => exact fun σ' S' H'' e5 => ⟨S', ρn, e4.trans e5, hrun⟩
        | rt d fr =>
          rw [← hrun] at q
          simp only at q
          obtain ⟨ρ3, h3, q⟩ := wS.opt q
          intro σ' S' H'' v e5 g fe
          refine q σ' S' H'' v (unlock_evo ev.env (e4.trans e5) h3) g fun z => ⟨(fe z).1, fun p ep => ?_⟩
          exact unlock_env ev.env (e4.trans e5) h3 ((fe z).2 p ep)
  · have ei : i = items.length := by omega
    subst ei
    rw [List.drop_length] at hrun
    simp only [forL] at hrun
    rw [← hrun] at q
    simp only at q
    obtain ⟨ρ3, h3, q⟩ := wS.opt q
    exact .inl ⟨(hw H0).stop hok, q σc Sc Hc (unlock_evo ev.env e1 h3)⟩
/-! ### while -/
theorem ss_wh (own : PassesOwn (model X.prog X.w) X.A X.env X.xe) (hc : SV X H0 W c mc) (hb : PSs X body (tS X.K H0 W f)) (n : Nat) : PS X (.While c body [] pos) (tS X.K H0 W (whileL mc.t f n)) := by
  refine PS.weak (ps_while own hc.t hb) fun D σ H ⟨S, ρ, E, h⟩ => ?_
  refine ⟨fun k σc Hc => ∃ Sc ρc, Evo X.K H0 σ S H ρ σc Sc Hc ρc ∧ whileL mc.t f k ρc = whileL mc.t f n ρ, ⟨n, S, ρ, Evo.refl E, rfl⟩, ?_⟩
  rintro k σc Hc ⟨Sc, ρc, e1, hrun⟩
  cases k with
  | zero =>
    simp only [whileL] at hrun
    rw [← hrun] at h
    exact h.elim
  | succ k =>
    simp only [whileL] at hrun
    refine ⟨Sc, ρc, e1.env, ?_⟩
    cases ht : mc.t ρc with
    | st =>
      rw [ht] at hrun
      rw [← hrun] at h
      exact h.elim
    | ex x ρn =>
      rw [ht] at hrun
      rw [← hrun] at h
      exact fun S' H' e2 => h σc S' H' (e1.trans e2)
    | ok b ρt =>
      rw [ht] at hrun
      intro S1 H1 e2
      cases b with
      | false =>
        simp only at hrun
        rw [← hrun] at h
        exact iteF (h σc S1 H1 (e1.trans e2))
      | true =>
        simp only at hrun
        refine iteT ⟨fun σn Hn => ∃ Sn ρn, Evo X.K H0 σ S H ρ σn Sn Hn ρn ∧ whileL mc.t f k ρn = whileL mc.t f n ρ, fun σn Hn hn => ⟨k, Nat.lt_succ_self k, hn⟩, S1, ρt, e2.env, ?_⟩
        cases hx : f ρt with
        | st =>
          rw [hx] at hrun
          rw [← hrun] at h
          exact h.elim
        | ex x ρn =>
          rw [hx] at hrun
          rw [← hrun] at h
          exact fun σ' S' H' e3 => h σ' S' H' ((e1.trans e2).trans e3)
        | ok fl ρn =>
          rw [hx] at hrun
          cases fl with
          | nx => exact fun σ' S' H' e3 => ⟨S', ρn, (e1.trans e2).trans e3, hrun⟩
          | rt d fr =>
            rw [← hrun] at h
            exact fun σ' S' H' v e3 g fe => h σ' S' H' v ((e1.trans e2).trans e3) g fe
/-! ### xs.append(e), xs.extend(e), xs[k] = e -/
theorem chg_ok {K : PySem.W.Frag} {D : Ends} {σ : L2.St} {S S1 : List Addr} {H H1 : Hp} {ρ ρ1 : Rho} {i : Nat} {fn : PyData → Option PyData} (h : wS K H0 W D σ S H ρ (chg i fn ρ1)) : ∃ t d d', ρ1[i]? = some (.mu t d) ∧ fn d = some d' ∧ wS K H0 W D σ S H ρ (.ok .nx (ρ1.set i (.mu t d'))) := by
  unfold chg at h
  cases hi : ρ1[i]? with
  | none => simp only [hi] at h; exact h.elim
  | some s =>
    simp only [hi] at h
    cases s with
    | mu t d =>
      obtain ⟨d', hd, q⟩ := wS.opt h
      exact ⟨t, d, d', rfl, hd, q⟩
    | no => exact h.elim
    | sh _ => exact h.elim
    | lk _ _ => exact h.elim
theorem appI_ok {d l z : PyData} (h : appI d l = some z) : ∃ xs, l = .list xs ∧ xs.length < big ∧ z = .list (xs ++ [d]) := by
  cases l with
  | list xs =>
    simp only [appI] at h
    by_cases hl : xs.length < big
    · rw [if_pos hl] at h
      cases h
      exact ⟨xs, rfl, hl, rfl⟩
    · rw [if_neg hl] at h
      cases h
  | _ => cases h
theorem extI_ok {d l z : PyData} (h : extI d l = some z) : ∃ xs ys, l = .list xs ∧ d = .list ys ∧ xs.length + ys.length ≤ big ∧ z = .list (xs ++ ys) := by
  cases l with
  | list xs =>
    cases d with
    | list ys =>
      simp only [extI] at h
      by_cases hl : xs.length + ys.length ≤ big
      · rw [if_pos hl] at h
        cases h
        exact ⟨xs, ys, rfl, rfl, hl, rfl⟩
      · rw [if_neg hl] at h
        cases h
    | _ => cases h
  | _ => cases h
def mutF (i : Nat) (m : Sm) (fn : PyData → PyData → Option PyData) : Rho → R Fl := fun ρ => match ρ[i]? with
  | some (.mu _ (.list _)) => (m.v ρ).bind fun d ρ1 => chg i (fn d.1) ρ1
  | _ => .st
theorem mutF_ok {K : PySem.W.Frag} {D : Ends} {σ : L2.St} {S : List Addr} {H : Hp} {ρ : Rho} {i : Nat} {fn : PyData → PyData → Option PyData} (h : wS K H0 W D σ S H ρ (mutF i m fn ρ)) : ∃ t xs, ρ[i]? = some (.mu t (.list xs)) ∧ wS K H0 W D σ S H ρ ((m.v ρ).bind fun d ρ1 => chg i (fn d.1) ρ1) := by
  unfold mutF at h
  split at h
  · rename_i t xs hi
    exact ⟨t, xs, hi, h⟩
  · exact h.elim
theorem mt_extendR : MtM X "list.extend" (fun x vs H Q => ∃ l b xs zs, x = .ref l ∧ vs = [.ref b] ∧ H l = some (.lst xs) ∧ Ls X.K H b zs ∧ xs.length + zs.length ≤ sizeLine ∧ Q .non (upd H l (.lst (xs ++ zs)))) := by
  rintro pins sh σ H x vs v us Q I rx rv ⟨l, b, xs, zs, rfl, rfl, atl, atb, room, k⟩
  cases rx
  obtain ⟨_, rfl, ru⟩ := rv.one; cases ru
  obtain ⟨_, ls, n, rl, nl, hl⟩ := I.lstM atl
  obtain ⟨_, bs, m, rb, nb, hb⟩ := Inv.lstR I atb
  have sum : ls.toArray.size + bs.toArray.size ≤ sizeLine := by simp only [List.size_toArray]; omega
  have short : ¬ (!ls.toArray.isEmpty && Builtin.List.listTooLong (ls.toArray.size + bs.toArray.size)) = true := fun z => by
    rw [notLongL sum, Bool.and_false] at z; exact Bool.false_ne_true z
  have room2 : (xs ++ zs).length ≤ sizeLine := by rw [List.length_append]; exact room
  refine call_meets F.slot_list_extend ⟨_, hl, rfl⟩ F.entry_list_extend (F.args_list_extend_2 _ _) (AutoSeq1.list_extend_list_list_0 l ls.toArray n b bs.toArray m short (by simp only [List.size_toArray]; omega) (by omega)) ⟨hl, hb, ?_⟩
  exact ⟨.non, _, I.lset (its' := ls ++ bs) atl hl (by simp) (rl.append rb) room2, rfl, k⟩
/-- a list of ours, its text a name -/
theorem own_list {K : PySem.W.Frag} {σ : L2.St} {S : List Addr} {H : Hp} {ρ : Rho} {i : Nat} {t : Bool} {xs : List PyData} (E : EnvOk K H0 S σ H ρ) (h : ρ[i]? = some (.mu t (.list xs))) : ∃ l vs, σ[i]? = some (some (.ref l)) ∧ l ∈ S ∧ H l = some (.lst vs) ∧ GoodL K S H xs vs := by
  obtain ⟨l, hl, hS, ⟨vs, hv, g⟩, _⟩ := E.mu i t _ (.inl h)
  exact ⟨l, vs, hl, hS, hv, g⟩
theorem few1 {e : Expr} {env : Env} {cpos : Pos} (hp : plainE e = true) : ((backTo cpos (starEach (e :: []) env)).all (fun x => !x.1) && (backToKw cpos (keywordEach [] env)).all (fun x => x.1.isSome)
      && decide ((e :: ([] : List Expr)).length + ([] : List Keyword).length + (if ([] : List Keyword).isEmpty then 0 else 1) < 30)) = true := by
  rw [star_plain hp]
  rfl
variable {i : Nat} {x : Str} {px apos cpos : Pos}
theorem ss_app (hv : PE X (.Name x px) (tVar i)) (he : SV X H0 W e m) (hp : plainE e = true) (hl : (apos.endLine == cpos.line) = true) (hs : swapsWith (.Call (.Attribute (.Name x px) "append" apos) [e] [] cpos) none pos.line X.env = pure false := by rfl) :
    PS X (.Expr (.Call (.Attribute (.Name x px) "append" apos) [e] [] cpos) pos) (tS X.K H0 W (mutF i m appI)) := by
  refine PS.weak (ps_expr (pe_bm PySem.F.plainAttrs_list PySem.F.slot_list_append PySem.F.type_list_append mt_append hv (args_v (.cons he .nil) (by rw [List.all_cons, hp]; rfl)) rfl (few1 hp) hl (star_plain hp) (stars_plain rfl)) hs) fun D σ H ⟨S, ρ, E, h⟩ => ?_
  obtain ⟨t, xs, hi, h⟩ := mutF_ok h
  obtain ⟨l, vs, hσ, hS, hH, g⟩ := own_list E hi
  refine ⟨_, hσ, .inl ⟨rfl, vs, .inl (.inl hH)⟩, S, ρ, E, ?_⟩
  show Aft X.K H0 W σ S H ρ ((m.v ρ).bind fun d ρ1 => .ok [d.1] ρ1) _
  cases hm : m.v ρ with
  | st => rw [hm] at h; exact h.elim
  | ex c ρ1 => rw [hm] at h; exact fun S1 H1 ev => h σ S1 H1 ev
  | ok d ρ1 =>
    rw [hm] at h
    intro S1 H1 ev vs' g'
    obtain ⟨t', d0, d', hi', hd, q⟩ := chg_ok (S1 := S1) (H1 := H1) h
    obtain ⟨ys, e1, hb, e2⟩ := appI_ok hd
    subst e1 e2
    obtain ⟨l', vs1, hσ', hS', hH', g1⟩ := own_list ev.env hi'
    rw [hσ] at hσ'
    cases hσ'
    simp only [GoodL] at g'
    obtain ⟨y, r, e3, gy, e4⟩ := g'
    subst e3 e4
    refine ⟨l, vs1, y, rfl, rfl, hH', by rw [g1.length, ← big_eq]; exact hb, q σ S1 _ (ev.trans (chg_evo ev.env hi' hσ ⟨_, upd_same, goodL_put hS' hH' trivial (g1.append (.cons gy .nil))⟩))⟩
theorem ss_ext (hv : PE X (.Name x px) (tVar i)) (he : SV X H0 W e m) (hp : plainE e = true) (hl : (apos.endLine == cpos.line) = true) (hs : swapsWith (.Call (.Attribute (.Name x px) "extend" apos) [e] [] cpos) none pos.line X.env = pure false := by rfl) :
    PS X (.Expr (.Call (.Attribute (.Name x px) "extend" apos) [e] [] cpos) pos) (tS X.K H0 W (mutF i m extI)) := by
  refine PS.weak (ps_expr (pe_bm PySem.F.plainAttrs_list PySem.F.slot_list_extend PySem.F.type_list_extend mt_extendR hv (args_v (.cons he .nil) (by rw [List.all_cons, hp]; rfl)) rfl (few1 hp) hl (star_plain hp) (stars_plain rfl)) hs) fun D σ H ⟨S, ρ, E, h⟩ => ?_
  obtain ⟨t, xs, hi, h⟩ := mutF_ok h
  obtain ⟨l, vs, hσ, hS, hH, g⟩ := own_list E hi
  refine ⟨_, hσ, .inl ⟨rfl, vs, .inl (.inl hH)⟩, S, ρ, E, ?_⟩
  show Aft X.K H0 W σ S H ρ ((m.v ρ).bind fun d ρ1 => .ok [d.1] ρ1) _
  cases hm : m.v ρ with
  | st => rw [hm] at h; exact h.elim
  | ex c ρ1 => rw [hm] at h; exact fun S1 H1 ev => h σ S1 H1 ev
  | ok d ρ1 =>
    rw [hm] at h
    intro S1 H1 ev vs' g'
    obtain ⟨t', d0, d', hi', hd, q⟩ := chg_ok (S1 := S1) (H1 := H1) h
    obtain ⟨ys, zs, e1, e5, hb, e2⟩ := extI_ok hd
    subst e1 e2
    obtain ⟨l', vs1, hσ', hS', hH', g1⟩ := own_list ev.env hi'
    rw [hσ] at hσ'
    cases hσ'
    rw [e5] at g'
    simp only [GoodL, Good] at g'
    obtain ⟨y, r, e3, ⟨b, us, e6, hr, gy⟩, e4⟩ := g'
    subst e3 e4 e6
    refine ⟨l, b, vs1, us, rfl, rfl, hH', hr.ls, by rw [g1.length, gy.length, ← big_eq]; exact hb, q σ S1 _ (ev.trans (chg_evo ev.env hi' hσ ⟨_, upd_same, goodL_put hS' hH' trivial (g1.append gy)⟩))⟩
end
end MP
end
section
set_option Elab.async false
set_option linter.all false
set_option autoImplicit false
set_option maxRecDepth 100000
set_option maxHeartbeats 4000001
namespace MP
open PySem.Spec PyProof.Rows L2 PySem

/-- several values: the new ones at ps -/
def Mt (K : PySem.W.Frag) (S : List Addr) (H : Hp) : List (PyData × Bool) → List V → List Addr → Prop
  | [], vs, ps => vs = [] ∧ ps = []
  | (d, true) :: ds, vs, ps => ∃ p q r, vs = .ref p :: r ∧ ps = p :: q ∧ Cont K S H p d ∧ Mt K S H ds r q
  | (d, false) :: ds, vs, ps => ∃ v r, vs = v :: r ∧ Good K S H d v ∧ Mt K S H ds r ps
theorem Mt.chg {K : PySem.W.Frag} {S S' : List Addr} {H H' : Hp} {M : Addr → Prop} (c : Chg S S' H H' M) : ∀ {ds : List (PyData × Bool)} {vs : List V} {ps : List Addr}, (∀ p, p ∈ ps → ¬ M p) → Mt K S H ds vs ps → Mt K S' H' ds vs ps
  | [], _, _, _, h => h
  | (d, true) :: ds, vs, ps, n, ⟨p, q, r, e1, e2, h1, h2⟩ => ⟨p, q, r, e1, e2, Cont.chg c (n p (e2 ▸ List.mem_cons_self)) h1, Mt.chg c (fun x m => n x (e2 ▸ List.mem_cons_of_mem _ m)) h2⟩
  | (d, false) :: ds, vs, ps, n, ⟨v, r, e1, h1, h2⟩ => ⟨v, r, e1, Good.chg c d v h1, Mt.chg c n h2⟩
/-- behind several values -/
structure Fl2 (K : PySem.W.Frag) (H0 : Hp) (S : List Addr) (H H' : Hp) (σ : L2.St) (ρ : Rho) (ds : List (PyData × Bool)) (vs : List V) (ps : List Addr) : Prop where
  nd : ps.Nodup
  out : ∀ p, p ∈ ps → p ∉ S
  new : ∀ p, p ∈ ps → H p = none
  env : EnvOk K H0 (ps ++ S) σ H' ρ
  mt : Mt K (ps ++ S) H' ds vs ps
def tF (K : PySem.W.Frag) (H0 : Hp) (W : WX) (f : Rho → R (List (PyData × Bool))) : TA := fun σ H Q => tR K H0 W f σ H fun S' H' ρ' ds => ∀ vs ps, Fl2 K H0 S' H H' σ ρ' ds vs ps → Q vs H'
section
variable {X : Cx} {H0 : Hp} {W : WX} {e : Expr} {es : List Expr} {ms : List Sm}
theorem evF_cons (m : Sm) (ms : List Sm) : evF (m :: ms) = fun ρ => (m.v ρ).bind fun d ρ1 => (evF ms ρ1).bind fun ds ρ2 => .ok (d :: ds) ρ2 := rfl
theorem args_f : ∀ {es : List Expr} {ms : List Sm}, (∀ H0, SVs X H0 W es ms) → es.all plainE = true → ∀ H0, PA X es (tF X.K H0 W (evF ms))
  | [], ms, h, _, H0 => by
    cases h H0
    exact PA.weak pa_nil fun σ H Q ⟨S, ρ, E, q⟩ => q.now E [] [] ⟨.nil, (fun _ m => by cases m), (fun _ m => by cases m), E, ⟨rfl, rfl⟩⟩
  | e :: es, ms, h, hp, H0 => by
    have hm : ∃ m mr, ms = m :: mr ∧ (∀ H0, SV X H0 W e m) ∧ ∀ H0, SVs X H0 W es mr := by
      cases ms with
      | nil => cases h H0
      | cons m mr =>
        refine ⟨m, mr, rfl, fun H0 => ?_, fun H0 => ?_⟩
        · cases h H0 with
          | cons h1 _ => exact h1
        · cases h H0 with
          | cons _ h2 => exact h2
    obtain ⟨m, mr, em, h1, h2⟩ := hm
    subst em
    rw [List.all_cons, Bool.and_eq_true] at hp
    have ih : PA X es fun σ H Q => ∃ H0, tF X.K H0 W (evF mr) σ H Q := ⟨fun pos pins s σ H Q I ⟨H0, q⟩ => (args_f h2 hp.2 H0).run pos pins s σ H Q I q⟩
    refine PA.weak (pa_cons (h1 H0).v ih (star_plain hp.1)) fun σ H Q ⟨S, ρ, E, q⟩ => ?_
    rw [evF_cons] at q
    refine ⟨S, ρ, E, q.bind.thn fun S1 H1 ρ1 d ev q v g fr => ?_⟩
    match d, q, g, fr with
    | (d, false), q, g, fr =>
      refine ⟨H0, S1, ρ1, ev.env, q.bind.thn fun S2 H2 ρ2 ds ev2 q vs ps F => q.now ev2.env (v :: vs) ps ⟨F.nd, F.out, fun p m => ev.none (F.new p m), F.env, v, vs, rfl, ?_, F.mt⟩⟩
      have c : Chg S1 (ps ++ S2) H1 H2 (MA σ ρ1) := ⟨ev2.keep, fun a m => ev.env.ma m, fun a m => by
        rcases List.mem_append.mp m with z | z
        · exact .inr (F.new a z)
        · exact ev2.sub a z⟩
      exact Good.chg c d v g
    | (d, true), q, g, fr =>
      obtain ⟨⟨p, e, hp0, hn, hc⟩, hE⟩ := fr rfl
      subst e
      have E2 := hE p rfl
      have nop : ¬ OA σ ρ1 p := fun h => hn (ev.env.oa h).1
      obtain ⟨o, ho, mo⟩ := hc.mut
      have Er : EnvOk X.K (upd H0 p (.lst [])) (p :: S1) σ H1 ρ1 := E2.res (by rw [ho]; exact fun z => nomatch z) nop
      refine ⟨upd H0 p (.lst []), p :: S1, ρ1, Er, ?_⟩
      have q : Aft X.K H0 W σ S1 H1 ρ1 ((evF mr ρ1).bind fun ds ρ2 => .ok ((d, true) :: ds) ρ2) _ := q
      -- from one entry to the other
      have key : ∀ {S2 H2 ρ2}, Evo X.K (upd H0 p (.lst [])) σ (p :: S1) H1 ρ1 σ S2 H2 ρ2 → Evo X.K H0 σ S1 H1 ρ1 σ (S2.filter fun a => decide (a ≠ p)) H2 ρ2 ∧ p ∈ S2 ∧ H2 p = some o ∧ ¬ OA σ ρ2 p := fun {S2 H2 ρ2} v => by
        obtain ⟨r1, r2⟩ := v.res ho nop
        have hs : ∀ a, a ∈ S2.filter (fun a => decide (a ≠ p)) → a ∈ S2 ∧ a ≠ p := fun a h => by simpa using h
        refine ⟨⟨v.keep, fun a m => ?_, fun a m h => List.mem_filter.mpr ⟨v.unres.old a (List.mem_cons_of_mem _ m) h, decide_eq_true fun e => hn (e ▸ m)⟩, v.mono, v.ow, v.io, v.there, v.lk, v.env.unres.less (fun a m => (hs a m).1) fun a h => List.mem_filter.mpr ⟨(v.env.oa h).1, decide_eq_true fun e => r2 (e ▸ h)⟩⟩, v.old p List.mem_cons_self (by rw [upd_same]; exact fun z => nomatch z), r1, r2⟩
        obtain ⟨m1, m2⟩ := hs a m
        rcases v.sub a m1 with z | z
        · rcases List.mem_cons.1 z with z | z
          · exact absurd z m2
          · exact .inl z
        · exact .inr z
      cases hr : evF mr ρ1 with
      | st => rw [hr] at q; exact q.elim
      | ex c ρ2 => rw [hr] at q; exact fun S2 H2 v => q _ H2 (key v).1
      | ok ds ρ2 =>
        rw [hr] at q
        intro S2 H2 v vs ps F
        obtain ⟨ev2, mp, hp2, nop2⟩ := key v
        have mem : ∀ a, a ∈ (p :: ps) ++ S2.filter (fun a => decide (a ≠ p)) ↔ a ∈ ps ++ S2 := fun a => by
          constructor
          · intro m
            rcases List.mem_append.mp m with z | z
            · rcases List.mem_cons.1 z with z | z
              · exact List.mem_append.mpr (.inr (z ▸ mp))
              · exact List.mem_append.mpr (.inl z)
            · exact List.mem_append.mpr (.inr (List.mem_filter.mp z).1)
          · intro m
            by_cases e : a = p
            · subst e
              exact List.mem_append.mpr (.inl List.mem_cons_self)
            · rcases List.mem_append.mp m with z | z
              · exact List.mem_append.mpr (.inl (List.mem_cons_of_mem _ z))
              · exact List.mem_append.mpr (.inr (List.mem_filter.mpr ⟨z, decide_eq_true e⟩))
        have less : Chg (ps ++ S2) ((p :: ps) ++ S2.filter fun a => decide (a ≠ p)) H2 H2 (fun _ => False) := Chg.less fun a m => (mem a).mp m
        have npp : p ∉ ps := fun m => by
          have := F.new p m
          rw [ho] at this
          cases this
        refine q _ H2 ev2 (.ref p :: vs) (p :: ps) ⟨List.nodup_cons.mpr ⟨npp, F.nd⟩, fun a m => ?_, fun a m => ?_, ?_, p, ps, vs, rfl, rfl, ?_, Mt.chg less (fun _ _ h => h) F.mt⟩
        · rcases List.mem_cons.mp m with z | z
          · subst z
            exact fun m => by simpa using (List.mem_filter.mp m).2
          · exact fun m => F.out a z (List.mem_filter.mp m).1
        · rcases List.mem_cons.mp m with z | z
          · exact z ▸ hp0
          · exact ev.none (F.new a z)
        · exact F.env.unres.less (fun a m => (mem a).mp m) fun a h => (mem a).mpr (F.env.oa h).1
        · have c : Chg (p :: S1) (ps ++ S2) H1 H2 (MA σ ρ1) := ⟨v.keep, fun a m => Er.ma m, fun a m => by
            rcases List.mem_append.mp m with z | z
            · exact .inr (F.new a z)
            · exact v.sub a z⟩
          exact Cont.chg less (fun h => h) (Cont.chg c (fun ⟨i, t, d, h1, h2⟩ => nop ⟨i, _, h1, rfl, h2⟩) hc)
end
/-! ### the stores -/
def setAll : L2.St → List Nat → List V → L2.St
  | σ, i :: ts, v :: vs => setAll (σ.set i (some v)) ts vs
  | σ, _, _ => σ
section
variable {K : PySem.W.Frag} {H0 : Hp} {W : WX} {σ0 : L2.St} {S0 : List Addr} {Hs H : Hp} {ρ0 : Rho} {om : List Nat}
theorem sets_ok (E0 : EnvOk K H0 S0 σ0 Hs ρ0) : ∀ {ts : List Nat} {ds : List (PyData × Bool)} {vs : List V} {ps : List Addr} {S : List Addr} {σ : L2.St} {ρ ρ2 : Rho}, Evo K H0 σ0 S0 Hs ρ0 σ S H ρ → Fl2 K H0 S Hs H σ ρ ds vs ps → own2 om ts ds ρ = some ρ2 →
    ∃ S2, Evo K H0 σ0 S0 Hs ρ0 (setAll σ ts vs) S2 H ρ2
  | [], [], vs, ps, S, σ, ρ, ρ2, ev, F, h => by
    simp only [own2] at h
    cases h
    exact ⟨S, ev⟩
  | [], _ :: _, vs, ps, S, σ, ρ, ρ2, ev, F, h => by simp only [own2] at h; cases h
  | _ :: _, [], vs, ps, S, σ, ρ, ρ2, ev, F, h => by simp only [own2] at h; cases h
  | i :: ts, (d, true) :: ds, vs, ps, S, σ, ρ, ρ2, ev, F, h => by
    simp only [own2, Option.bind_eq_some_iff] at h
    obtain ⟨ρ1, h1, h2⟩ := h
    obtain ⟨p, q, r, e1, e2, hc, hm⟩ := F.mt
    subst e1 e2
    have hnp := F.out p List.mem_cons_self
    have hnq : p ∉ q := (List.nodup_cons.mp F.nd).1
    have lessS : ∀ a, a ∈ q ++ S → a ∈ (p :: q) ++ S := fun a m => by
      rcases List.mem_append.mp m with z | z
      · exact List.mem_append.mpr (.inl (List.mem_cons_of_mem _ z))
      · exact List.mem_append.mpr (.inr z)
    unfold own1 at h1
    by_cases hb : (om.contains i && true) = true
    · rw [if_pos hb] at h1
      have lessP : ∀ a, a ∈ p :: S → a ∈ (p :: q) ++ S := fun a m => by
        rcases List.mem_cons.mp m with z | z
        · exact List.mem_append.mpr (.inl (z ▸ List.mem_cons_self))
        · exact List.mem_append.mpr (.inr z)
      have fe : FrE K H0 S Hs H σ ρ d (.ref p) := ⟨⟨p, rfl, F.new p List.mem_cons_self, hnp, Cont.chg (Chg.less lessP) (fun h => h) hc⟩, fun p' e => by
        cases e
        exact F.env.less lessP fun a h => List.mem_cons_of_mem _ (ev.env.oa h).1⟩
      obtain ⟨S2, e3, es⟩ := evo_own E0 ev fe h1
      have es := es p rfl
      subst es
      have mem : ∀ a, a ∈ q ++ (p :: S) ↔ a ∈ (p :: q) ++ S := fun a => by
        simp only [List.mem_append, List.mem_cons]
        constructor
        · rintro (z | z | z)
          · exact .inl (.inr z)
          · exact .inl (.inl z)
          · exact .inr z
        · rintro ((z | z) | z)
          · exact .inr (.inl z)
          · exact .inl z
          · exact .inr (.inr z)
      show ∃ S2, Evo K H0 σ0 S0 Hs ρ0 (setAll (σ.set i (some (.ref p))) ts r) S2 H ρ2
      refine sets_ok E0 (ps := q) (S := p :: S) e3 ⟨(List.nodup_cons.mp F.nd).2, fun a m => ?_, fun a m => F.new a (List.mem_cons_of_mem _ m), ?_, Mt.chg (Chg.less fun a m => (mem a).mp m) (fun _ _ h => h) hm⟩ h2
      · intro z
        rcases List.mem_cons.1 z with z | z
        · exact hnq (z ▸ m)
        · exact F.out a (List.mem_cons_of_mem _ m) z
      · -- the slots, q met by none
        have Eq : EnvOk K H0 (q ++ S) σ H ρ := F.env.less lessS fun a h => List.mem_append.mpr (.inr (ev.env.oa h).1)
        have Ep : EnvOk K H0 ((p :: q) ++ S) σ H ρ := F.env
        obtain ⟨el, hi, hl, hmm⟩ := setSl_eq h1
        subst el
        have E3 := e3.env
        refine ⟨E3.len, fun j d' h => ?_, fun j t d' h => ?_, E3.apart, fun a m => F.env.dom a ((mem a).mp m), E3.ent⟩
        · rcases set_get h with ⟨_, e⟩ | ⟨n, h'⟩
          · cases e
          · obtain ⟨x, hx, g⟩ := Ep.sh j d' h'
            exact ⟨x, by rw [List.getElem?_set_ne (Ne.symm n)]; exact hx, g.less fun a m => (mem a).mp m⟩
        · obtain ⟨a, ha, hS, hc', hf⟩ := E3.mu j t d' h
          refine ⟨a, ha, List.mem_append.mpr (.inr hS), ?_, hf⟩
          by_cases n : j = i
          · subst n
            rw [List.getElem?_set_self hi] at h
            rcases h with h | h
            · cases h
              rw [List.getElem?_set_self (by rw [← ev.env.len]; exact hi)] at ha
              cases ha
              exact Cont.chg (Chg.less fun a m => (mem a).mp m) (fun h => h) hc
            · cases h
          · rw [List.getElem?_set_ne (Ne.symm n)] at h ha
            obtain ⟨a', ha', _, hc2, _⟩ := Ep.mu j t d' h
            rw [ha] at ha'
            cases ha'
            exact Cont.chg (Chg.less fun a m => (mem a).mp m) (fun h => h) hc2
    · rw [if_neg hb] at h1
      have npS : p ∉ q ++ S := fun m => by
        rcases List.mem_append.mp m with z | z
        · exact hnq z
        · exact hnp z
      have gq : Good K (q ++ S) H d (.ref p) := by
        have hc' : Cont K (q ++ S) H p d := Cont.chg (Chg.less lessS) (fun h => h) hc
        cases d with
        | list ds => exact Cont.frz npS rfl hc'
        | dict ds => exact Cont.frz npS rfl hc'
        | _ => exact hc.elim
      have Eq : EnvOk K H0 (q ++ S) σ H ρ := F.env.less lessS fun a h => List.mem_append.mpr (.inr (ev.env.oa h).1)
      have e3 := set_sh Eq h1 gq
      have e4 := set_sh ev.env h1 (gq.less fun a m => List.mem_append.mpr (.inr m))
      show ∃ S2, Evo K H0 σ0 S0 Hs ρ0 (setAll (σ.set i (some (.ref p))) ts r) S2 H ρ2
      exact sets_ok E0 (ps := q) (S := S) (ev.trans e4) ⟨(List.nodup_cons.mp F.nd).2, fun a m => F.out a (List.mem_cons_of_mem _ m), fun a m => F.new a (List.mem_cons_of_mem _ m), e3.env, Mt.chg (Chg.less lessS) (fun _ _ h => h) hm⟩ h2
  | i :: ts, (d, false) :: ds, vs, ps, S, σ, ρ, ρ2, ev, F, h => by
    simp only [own2, Option.bind_eq_some_iff] at h
    obtain ⟨ρ1, h1, h2⟩ := h
    obtain ⟨v, r, e1, g, hm⟩ := F.mt
    subst e1
    unfold own1 at h1
    rw [if_neg (by simp)] at h1
    have e3 := set_sh F.env h1 g
    have e4 := set_sh ev.env h1 (g.less fun a m => List.mem_append.mpr (.inr m))
    show ∃ S2, Evo K H0 σ0 S0 Hs ρ0 (setAll (σ.set i (some v)) ts r) S2 H ρ2
    exact sets_ok E0 (ps := ps) (S := S) (ev.trans e4) ⟨F.nd, F.out, F.new, e3.env, hm⟩ h2
theorem Fl2.same {S : List Addr} {H H1 H2 : Hp} {σ : L2.St} {ρ : Rho} {ds : List (PyData × Bool)} {vs : List V} {ps : List Addr} (F : Fl2 K H0 S H H1 σ ρ ds vs ps) (s : Same H1 H2) : Fl2 K H0 S H H2 σ ρ ds vs ps :=
  ⟨F.nd, F.out, F.new, F.env.same s, Mt.chg (Chg.same s) (fun _ _ h => h) F.mt⟩
theorem Mt.len {S : List Addr} {H : Hp} : ∀ {ds : List (PyData × Bool)} {vs : List V} {ps : List Addr}, Mt K S H ds vs ps → vs.length = ds.length
  | [], _, _, h => by rw [h.1]; rfl
  | (d, true) :: ds, vs, ps, ⟨p, q, r, e1, e2, h1, h2⟩ => by rw [e1, List.length_cons, List.length_cons, Mt.len h2]
  | (d, false) :: ds, vs, ps, ⟨v, r, e1, h1, h2⟩ => by rw [e1, List.length_cons, List.length_cons, Mt.len h2]
theorem own2_len : ∀ {ts : List Nat} {ds : List (PyData × Bool)} {ρ ρ2 : Rho}, own2 om ts ds ρ = some ρ2 → ds.length = ts.length
  | [], [], _, _, _ => rfl
  | [], _ :: _, _, _, h => by simp only [own2] at h; cases h
  | _ :: _, [], _, _, h => by simp only [own2] at h; cases h
  | i :: ts, d :: ds, ρ, ρ2, h => by
    simp only [own2, Option.bind_eq_some_iff] at h
    obtain ⟨ρ1, h1, h2⟩ := h
    rw [List.length_cons, List.length_cons, own2_len h2]
end
def parF (om : List Nat) (ts : List Nat) (ms : List Sm) : Rho → R Fl := fun ρ => (evF ms ρ).bind fun ds ρ1 => optB (own2 om ts ds ρ1) fun ρ2 => .ok .nx ρ2
def gNames (ts : List Nat) : TGs := fun vs σ H Q => vs.length = ts.length ∧ Q (setAll σ ts vs) H
section
variable {X : Cx} {H0 : Hp} {W : WX} {es : List Expr} {ms : List Sm} {om : List Nat} {pos : Pos}
theorem par_weak {D : Ends} {σ : L2.St} {H : Hp} {ts : List Nat} (h : tS X.K H0 W (parF om ts ms) D σ H) : tF X.K H0 W (evF ms) σ H fun vs H1 => vs.length = ts.length ∧ ∀ H2, Same H1 H2 → D.nx (setAll σ ts vs) H2 := by
  obtain ⟨S, ρ, E, h⟩ := h
  refine ⟨S, ρ, E, (wS.bind h).thn fun S1 H1 ρ1 ds ev q vs ps F => ?_⟩
  obtain ⟨ρ2, h2, q⟩ := wS.opt q
  refine ⟨by rw [F.mt.len, own2_len h2], fun H2 sm => ?_⟩
  obtain ⟨S2, e2⟩ := sets_ok E (ev.trans (Evo.same ev.env sm)) (F.same sm) h2
  exact q _ S2 H2 e2
/-- a, b = x, y with plain locals -/
theorem ss_par2 {i j : Nat} {x y : Str} {a b : Expr} {px py pt : Pos} {kt k2 pt2} (hc : X.calm = true) (hN : X.N.Nodup) (hi : X.N[i]? = some x) (hj : X.N[j]? = some y) (hij : i ≠ j)
    (hx : X.env.scope.names.lookup x = some .local) (hy : X.env.scope.names.lookup y = some .local) (ha : ∀ H0, SVs X H0 W [a, b] ms) (hp : [a, b].all plainE = true)
    (hw : swappedStores [.Tuple [.Name x px, .Name y py] kt pt] (.Tuple [a, b] k2 pt2) X.env = pure (some [x, y])) :
    PS X (.Assign [.Tuple [.Name x px, .Name y py] kt pt] (.Tuple [a, b] k2 pt2) pos) (tS X.K H0 W (parF om [i, j] ms)) := by
  refine PS.weak (ps_par hc hN hi hj hij hx hy (args_f ha hp H0) hw rfl) fun D σ H h => ?_
  obtain ⟨S, ρ, E, q⟩ := par_weak h
  refine ⟨S, ρ, E, q.thn fun S1 H1 ρ1 ds ev q vs ps F => ?_⟩
  obtain ⟨hl, q⟩ := q vs ps F
  match vs, hl, q with
  | [v, w], _, q => exact ⟨v, w, rfl, q H1 (Same.refl _)⟩
theorem ss_par3 {i j l : Nat} {x y z : Str} {a b c : Expr} {px py pz pt : Pos} {kt k2 pt2} (hc : X.calm = true) (hN : X.N.Nodup) (hi : X.N[i]? = some x) (hj : X.N[j]? = some y) (hk : X.N[l]? = some z) (hij : i ≠ j) (hil : i ≠ l) (hjl : j ≠ l)
    (hx : X.env.scope.names.lookup x = some .local) (hy : X.env.scope.names.lookup y = some .local) (hz : X.env.scope.names.lookup z = some .local) (ha : ∀ H0, SVs X H0 W [a, b, c] ms) (hp : [a, b, c].all plainE = true)
    (hw : swappedStores [.Tuple [.Name x px, .Name y py, .Name z pz] kt pt] (.Tuple [a, b, c] k2 pt2) X.env = pure (some [x, y, z])) :
    PS X (.Assign [.Tuple [.Name x px, .Name y py, .Name z pz] kt pt] (.Tuple [a, b, c] k2 pt2) pos) (tS X.K H0 W (parF om [i, j, l] ms)) := by
  refine PS.weak (ps_par3 hc hN hi hj hk hij hil hjl hx hy hz (args_f ha hp H0) hw rfl) fun D σ H h => ?_
  obtain ⟨S, ρ, E, q⟩ := par_weak h
  refine ⟨S, ρ, E, q.thn fun S1 H1 ρ1 ds ev q vs ps F => ?_⟩
  obtain ⟨hl, q⟩ := q vs ps F
  match vs, hl, q with
  | [u, v, w], _, q => exact ⟨u, v, w, rfl, q H1 (Same.refl _)⟩
/-- the names of a tuple target -/
def chNs (N : List Str) (sto : Str → Bool) : List Nat → List Expr → Bool
  | [], [] => true
  | i :: ts, .Name x _ :: es => (decide (N[i]? = some x) && sto x) && chNs N sto ts es
  | _, _ => false
theorem pgs_names {N : List Str} {sto : Str → Bool} (eN : X.N = N) (nd : X.N.Nodup) (fn : ∀ x, sto x = true → Loc X.env.scope x ∧ (X.fn x = true ∨ X.env.scope.names.lookup x = some .local)) :
    ∀ {ts : List Nat} {es : List Expr}, chNs N sto ts es = true → PGs X es (gNames ts) ∧ (assignEach es X.env).length = ts.length ∧ (assignEach es X.env).findIdx? (·.1) = none
  | [], [], _ => by
    refine ⟨PGs.weak pgs_nil fun vs σ H Q ⟨hl, q⟩ => ?_, by simp only [assignEach]; rfl, by simp only [assignEach]; rfl⟩
    cases vs with
    | nil => exact ⟨rfl, q⟩
    | cons _ _ => cases hl
  | [], _ :: _, h => by simp only [chNs] at h; cases h
  | _ :: _, [], h => by simp only [chNs] at h; cases h
  | i :: ts, e :: es, h => by
    cases e with
    | Name x p =>
      simp only [chNs, Bool.and_eq_true, decide_eq_true_eq] at h
      obtain ⟨⟨h1, h2⟩, h3⟩ := h
      obtain ⟨l, f⟩ := fn x h2
      obtain ⟨g, l1, l2⟩ := pgs_names eN nd fn h3
      have ae : assignEach (.Name x p :: es) X.env = (false, assign (.Name x p) X.env) :: assignEach es X.env := by simp only [assignEach]
      refine ⟨PGs.weak (pgs_cons (pg_name nd (eN ▸ h1) l f) g (by rw [ae]; rfl)) fun vs σ H Q ⟨hl, q⟩ => ?_, by rw [ae, List.length_cons, List.length_cons, l1], by rw [ae, List.findIdx?_cons, l2]; rfl⟩
      cases vs with
      | nil => cases hl
      | cons v vs => exact ⟨v, vs, rfl, by simpa using hl, q⟩
    | _ => simp only [chNs] at h; cases h
/-- a, b = x, y by a tuple -/
theorem ss_parT {ts : List Nat} {ns : List Expr} {kt k2 : Nat} {pt pt2 : Pos} (hc : X.calm = true) (hn : PGs X ns (gNames ts) ∧ (assignEach ns X.env).length = ts.length ∧ (assignEach ns X.env).findIdx? (·.1) = none) (ha : ∀ H0, SVs X H0 W es ms) (hp : es.all plainE = true) (hl : ts.length ≤ 1000)
    (hw : swappedStores [.Tuple ns kt pt] (.Tuple es k2 pt2) X.env = pure none) : PS X (.Assign [.Tuple ns kt pt] (.Tuple es k2 pt2) pos) (tS X.K H0 W (parF om ts ms)) := by
  refine PS.weak (ps_asg (pe_tup (args_f ha hp H0)) (pg_tup hc hn.1 hn.2.1 hn.2.2) rfl hw (by simp only [assignEach]; rfl)) fun D σ H h => ?_
  obtain ⟨S, ρ, E, q⟩ := par_weak h
  refine ⟨S, ρ, E, q.thn fun S1 H1 ρ1 ds ev q vs ps F => ?_⟩
  obtain ⟨hlen, q⟩ := q vs ps F
  exact ⟨by rw [hlen, sizeLine_eq]; omega, fun T hT => ⟨T, vs, rfl, .inl (.inl upd_same), hlen, hlen, q _ (same_upd hT)⟩⟩
end
end MP
end
section
set_option Elab.async false
set_option linter.all false
set_option autoImplicit false
set_option maxRecDepth 100000
set_option maxHeartbeats 4000001
namespace MP
open PySem.Spec PyProof.Rows L2 PySem

section
variable {X : Cx} {H0 : Hp} {W : WX} {e k : Expr} {m mk' : Sm} {pos p p2 px : Pos} {om : List Nat} {cc : Cc} {cf : CT} {lev i : Nat} {x : Str}
/-- raise X('m') -/
theorem ss_rai {msg : Str} {j : Nat} {pc : Pos} (G : GX X cc cf W lev) (hx : x ∈ cc.excs) (hg : Gl X x) (hdb : (x == ("__debug__" : Str)) = false) : PS X (.Raise (some (.Call (.Name x p) [.Constant (.str msg) j p2] [] pc)) none pos) (tS X.K H0 W fun ρ => .ex x ρ) := by
  have F := G.exc x hx
  exact PS.weak (ps_raise G.calm G.tk (pmk_own PySem.F.excBase_ValueError F.q F.g F.k (raises_own F.s F.t) hg hdb)) fun D σ H ⟨S, ρ, E, h⟩ => h σ S H (Evo.refl E)
/-- name = [..] on one line -/
theorem ss_setLc {elt tg iter : Expr} {ifs : List Expr} {mel : Sm} {cd ia : List Sm} {t : Tg} {ik : Ik} {scope : Scope} {own : List (Str × Nat)} {spos : Pos} {y : Str} (hc : X.calm = true) (hN : X.N.Nodup) (hy : X.N[i]? = some y) (hyl : X.env.scope.names.lookup y = some .local)
    (hsw : swapsWith (.ListComp elt [⟨tg, iter, ifs, 0⟩] scope pos) (some (.Name y px)) spos.line X.env = pure true) (hi : PI X tg iter (tI X.K H0 W ik ia)) (ok : BlkOk X.N X.env.scope scope own) (hv : own.map (·.2) = tgSlots t)
    (hg : BlkCx X scope fun X' => ∀ H0, PG X' tg (tB X'.K H0 (bindTg t) (tgSlots t))) (hcd : BlkCx X scope fun X' => ∀ H0, SVs X' H0 noW ifs cd) (hl : cd.length ≤ 1) (he : BlkCx X scope fun X' => ∀ H0, SV X' H0 noW elt mel)
    (hs : ∀ x, foldedSetIterable iter X.env x = pure x) : PS X (.Assign [.Name y px] (.ListComp elt [⟨tg, iter, ifs, 0⟩] scope pos) spos) (tS X.K H0 W (asgF om i (MP.mk (v_cp mel t ik ia cd)))) :=
  PS.weak (ps_setLc hc hN hy hyl hsw hi ok (fun s H C cl fp => PG.ex (hg s H C cl fp)) (fun s H C cl fp => PTs.ex fun H0 => pts_of (hcd s H C cl fp H0) hl) (fun s H C cl fp => PE.ex fun H0 => (he s H C cl fp H0).v) hs) fun D σ H h => lc_read hv (asg_weak h)
/-! ### xs[k] = e -/
def putF (i : Nat) (mk' m : Sm) : Rho → R Fl := fun ρ => (m.v ρ).bind fun d ρ1 => match ρ1[i]? with
  | some (.mu _ _) => (mk'.v ρ1).bind fun dk ρ2 => chg i (putI dk.1 d.1) ρ2
  | _ => .st
theorem putI_ok {kd d l z : PyData} (h : putI kd d l = some z) : (∃ xs j n, l = .list xs ∧ kd = .int j ∧ ixN xs.length j = some n ∧ z = .list (xs.set n d)) ∨ ∃ kvs, l = .dict kvs ∧ isKey kd = true ∧ kvs.all (fun p => isKey p.1) = true ∧ kvs.length < 100000 ∧ z = .dict (dput kd d kvs) := by
  cases l with
  | list xs =>
    cases kd with
    | int j =>
      simp only [putI, Option.map_eq_some_iff] at h
      obtain ⟨n, h1, h2⟩ := h
      exact .inl ⟨xs, j, n, rfl, rfl, h1, h2.symm⟩
    | _ => cases h
  | dict kvs =>
    simp only [putI] at h
    by_cases c : ((isKey kd && kvs.all fun p => isKey p.1) && decide (kvs.length < 100000)) = true
    · rw [if_pos c] at h
      simp only [Bool.and_eq_true, decide_eq_true_eq] at c
      cases h
      exact .inr ⟨kvs, rfl, c.1.1, c.1.2, c.2, rfl⟩
    · rw [if_neg c] at h
      cases h
  | _ => cases h
theorem key_of {kd : PyData} (h : isKey kd = true) : ∃ q : Key, kd = keyD q := by
  cases kd with
  | int i => exact ⟨.inl i, rfl⟩
  | str s => exact ⟨.inr s, rfl⟩
  | _ => cases h
theorem ss_put (G : GX X cc cf W lev) (hv : PE X (.Name x px) (tVar i)) (he : SV X H0 W e m) (hk : SV X H0 W k mk') (ha : ∀ v, assign (.Subscript (.Name x px) k p) X.env v = (do
      let ov ← holding [v] (eval (.Name x px) X.env)
      let iv ← holding [v, ov] (eval k X.env)
      standAt p; holding [v, ov, iv] (setItem ov iv v)
      release [v, ov, iv] [])) : PS X (.Assign [.Subscript (.Name x px) k p] e pos) (tS X.K H0 W (putF i mk' m)) := by
  have hu : X.A.units + 1 < cLine := by have := G.room.units; omega
  have hsw : swapsWithSole [.Subscript (.Name x px) k p] e pos.line X.env = pure false := by
    cases e <;> rfl
  have hw : swappedStores [.Subscript (.Name x px) k p] e X.env = pure none := by
    cases e <;> rfl
  have hset : PSet X fun o i v H Q => rSetL o i v H Q ∨ rSetD o i v H Q := fun pins s σ H o i v ov iv u Q I ro ri rv h => by
    rcases h with h | h
    · exact set_list pins s σ H o i v ov iv u Q I ro ri rv h
    · exact set_dict hu pins s σ H o i v ov iv u Q I ro ri rv h
  refine PS.weak (ps_asg he.v (pg_sub hv hk.v hset ha) hsw hw (by simp only [assignEach]; rfl)) fun D σ H ⟨S, ρ, E, h⟩ => ⟨S, ρ, E, (wS.bind h).thn fun S1 H1 ρ1 d ev q v g fr => ?_⟩
  split at q
  · rename_i t d0 hi
    obtain ⟨a, ha', _⟩ := ev.env.mu i t d0 (.inl hi)
    refine ⟨_, ha', S1, ρ1, ev.env, (wS.bind (wS.from ev q)).thn fun S2 H2 ρ2 dk ev2 q kv gk _ => ?_⟩
    obtain ⟨t', d1, d', hi', hd, q⟩ := chg_ok (S1 := S2) (H1 := H2) q
    have gv := ev2.good ev.env g
    obtain ⟨b, hb, hbS, hbc, _⟩ := ev2.env.mu i t' d1 (.inl hi')
    rw [ha'] at hb
    cases hb
    rcases putI_ok hd with ⟨xs, j, n, e1, e2, e3, e4⟩ | ⟨kvs, e1, hk1, hk2, hl, e4⟩
    · subst e1 e4
      obtain ⟨vs, hH, gl⟩ := hbc
      rw [e2] at gk
      simp only [Good] at gk
      subst gk
      refine .inl ⟨a, vs, j, n, rfl, rfl, hH, ?_, q σ S2 _ (ev2.trans (chg_evo ev2.env hi' ha' ⟨_, upd_same, goodL_put hbS hH trivial (GoodL.set n gl gv)⟩))⟩
      rw [gl.length, ← e3]
      rfl
    · subst e1 e4
      obtain ⟨q', eq⟩ := key_of hk1
      rw [eq] at gk
      have ek : kv = kV q' := by
        cases q' <;> (simp only [keyD, Good] at gk; exact gk)
      subst ek
      have hbc' : ∃ ks, H2 a = some (.dK ks) ∧ GoodK X.K S2 H2 kvs ks := by
        rcases hbc with h | h
        · exact h
        · obtain ⟨r, ks, e, _, _⟩ := GoodH.at h
          rw [e] at hk2
          simp [isKey] at hk2
      obtain ⟨ks, hH, gk2⟩ := hbc'
      refine .inr ⟨a, _, rfl, DPut.k hH (by rw [gk2.length, sizeLine_eq]; omega), q σ S2 _ (ev2.trans (chg_evo ev2.env hi' ha' (.inl ⟨_, upd_same, ?_⟩)))⟩
      rw [eq]
      exact GoodK.chg (M := fun b => b = a) ⟨fun b x h n => by rw [upd_ne n]; exact h, fun b e => by subst e; exact ⟨hbS, _, hH, trivial⟩, fun _ h => .inl h⟩ _ _ (GoodK.put q' gv gk2)
  · exact q.elim
/-! ### d[a, b] = e -/
theorem keyEq_tup (q : List Key) (a b : Int) : keyEq (.tuple (q.map keyD)) (.tuple [.int a, .int b]) = decide (q = [.inl a, .inl b]) := by
  match q with
  | [] => simp [keyEq]
  | [_] => simp [keyEq]
  | [x, y] =>
    cases x <;> cases y <;> simp [keyEq, keyD]
    rw [Bool.eq_iff_iff]
    simp
  | x :: y :: z :: r => cases x <;> cases y <;> simp [keyEq, keyD]
theorem GoodT.put {K : PySem.W.Frag} {S : List Addr} {H : Hp} {a b : Int} {d : PyData} {v : V} (g : Good K S H d v) {ds : List (PyData × PyData)} {ks : List (List Key × V)} (h : GoodT K S H ds ks) : GoodT K S H (dput (.tuple [.int a, .int b]) d ds) (putK ks [.inl a, .inl b] v) := by
  have any : ∀ {ds : List (PyData × PyData)} {ks : List (List Key × V)}, GoodT K S H ds ks → (ds.any fun p => keyEq p.1 (.tuple [.int a, .int b])) = ks.any fun p => decide (p.1 = [.inl a, .inl b]) := by
    intro ds
    induction ds with
    | nil => intro ks h; simp only [GoodT] at h; rw [h]; rfl
    | cons c ds ih =>
      intro ks h
      obtain ⟨c1, c2⟩ := c
      simp only [GoodT] at h
      obtain ⟨q', v', r, e1, e2, h1, h2⟩ := h
      rw [e1, List.any_cons, List.any_cons, ih h2, e2]
      simp only [keyEq_tup]
  have mp : ∀ {ds : List (PyData × PyData)} {ks : List (List Key × V)}, GoodT K S H ds ks → GoodT K S H (ds.map fun p => if keyEq p.1 (.tuple [.int a, .int b]) = true then (p.1, d) else p) (ks.map fun p => if p.1 = [.inl a, .inl b] then (p.1, v) else p) := by
    intro ds
    induction ds with
    | nil => intro ks h; simp only [GoodT] at h; rw [h]; simp only [List.map_nil, GoodT]
    | cons c ds ih =>
      intro ks h
      obtain ⟨c1, c2⟩ := c
      simp only [GoodT] at h
      obtain ⟨q', v', r, e1, e2, h1, h2⟩ := h
      rw [e1, List.map_cons, List.map_cons]
      subst e2
      by_cases c : q' = [.inl a, .inl b]
      · rw [if_pos (by simp only [keyEq_tup, c, decide_true]), if_pos c]
        simp only [GoodT]
        exact ⟨q', v, _, rfl, rfl, g, ih h2⟩
      · rw [if_neg (by simp only [keyEq_tup, decide_eq_true_eq]; exact c), if_neg c]
        simp only [GoodT]
        exact ⟨q', v', _, rfl, rfl, h1, ih h2⟩
  have app : ∀ {ds : List (PyData × PyData)} {ks : List (List Key × V)}, GoodT K S H ds ks → GoodT K S H (ds ++ [(.tuple [.int a, .int b], d)]) (ks ++ [([.inl a, .inl b], v)]) := by
    intro ds
    induction ds with
    | nil => intro ks h; simp only [GoodT] at h; rw [h]; simp only [List.nil_append, GoodT]; exact ⟨[.inl a, .inl b], v, [], rfl, rfl, g, rfl⟩
    | cons c ds ih =>
      intro ks h
      obtain ⟨c1, c2⟩ := c
      simp only [GoodT] at h
      obtain ⟨q', v', r, e1, e2, h1, h2⟩ := h
      rw [e1, List.cons_append, List.cons_append]
      simp only [GoodT]
      exact ⟨q', v', _, rfl, e2, h1, ih h2⟩
  unfold dput putK
  rw [any h]
  by_cases c : (ks.any fun p => decide (p.1 = [.inl a, .inl b])) = true
  · rw [if_pos c, if_pos c]
    exact mp h
  · rw [if_neg c, if_neg c]
    exact app h
theorem GoodT.len {K : PySem.W.Frag} {S : List Addr} {H : Hp} : ∀ {ds : List (PyData × PyData)} {ks : List (List Key × V)}, GoodT K S H ds ks → ks.length = ds.length
  | [], _, h => by simp only [GoodT] at h; rw [h]; rfl
  | (c1, c2) :: ds, _, h => by
    simp only [GoodT] at h
    obtain ⟨q', v', r, e1, e2, h1, h2⟩ := h
    rw [e1, List.length_cons, List.length_cons, GoodT.len h2]
def putTF (i : Nat) (ks : List Sm) (m : Sm) : Rho → R Fl := fun ρ => (m.v ρ).bind fun d ρ1 => match ρ1[i]? with
  | some (.mu _ _) => (evs ks ρ1).bind fun ks ρ2 => chg i (putTI ks d.1) ρ2
  | _ => .st
theorem putTI_ok {ks : List PyData} {d l z : PyData} (h : putTI ks d l = some z) : ∃ a b r, ks = [.int a, .int b] ∧ l = .dict ((.none, .none) :: r) ∧ r.length < 100000 ∧ z = .dict ((.none, .none) :: dput (.tuple [.int a, .int b]) d r) := by
  unfold putTI at h
  split at h
  · rename_i a b r
    by_cases c : r.length < 100000
    · rw [if_pos c] at h
      cases h
      exact ⟨a, b, r, rfl, rfl, c, rfl⟩
    · rw [if_neg c] at h
      cases h
  · cases h
theorem ss_putT {es : List Expr} {ms : List Sm} {kt : Nat} {pt : Pos} (G : GX X cc cf W lev) (hv : PE X (.Name x px) (tVar i)) (he : SV X H0 W e m) (hk : SVs X H0 W es ms) (hp : es.all plainE = true) : PS X (.Assign [.Subscript (.Name x px) (.Tuple es kt pt) p] e pos) (tS X.K H0 W (putTF i ms m)) := by
  have hu : X.A.units + 1 < cLine := by have := G.room.units; omega
  have hsw : swapsWithSole [.Subscript (.Name x px) (.Tuple es kt pt) p] e pos.line X.env = pure false := by
    cases e <;> rfl
  have hw : swappedStores [.Subscript (.Name x px) (.Tuple es kt pt) p] e X.env = pure none := by
    cases e <;> rfl
  refine PS.weak (ps_asg he.v (pg_sub hv (pe_tup (args_v hk hp)) (set_dict hu) (fun v => rfl)) hsw hw (by simp only [assignEach]; rfl)) fun D σ H ⟨S, ρ, E, h⟩ => ⟨S, ρ, E, (wS.bind h).thn fun S1 H1 ρ1 d ev q v g fr => ?_⟩
  split at q
  · rename_i t d0 hi
    obtain ⟨a, ha', _⟩ := ev.env.mu i t d0 (.inl hi)
    refine ⟨_, ha', S1, ρ1, ev.env, (wS.bind (wS.from ev q)).thn fun S2 H2 ρ2 dk ev2 q kvs gk => ?_⟩
    obtain ⟨t', d1, d', hi', hd, q⟩ := chg_ok (S1 := S2) (H1 := H2) q
    have gv := ev2.good ev.env g
    obtain ⟨b, hb, hbS, hbc, _⟩ := ev2.env.mu i t' d1 (.inl hi')
    rw [ha'] at hb
    cases hb
    obtain ⟨ia, ib, r, ek, e1, hl, e4⟩ := putTI_ok hd
    subst ek e1 e4
    simp only [GoodL, Good] at gk
    obtain ⟨_, _, e5, e6, _, _, e7, e8, e9⟩ := gk
    subst e6 e8 e9 e7 e5
    refine ⟨by show 2 ≤ sizeLine; rw [sizeLine_eq]; omega, fun T hT => ?_⟩
    have sm := same_upd (o := .tup [.int ia, .int ib]) hT
    have E3 := ev2.env.same sm
    have hbc' : ∃ ks, H2 a = some (.dT ks) ∧ GoodT X.K S2 H2 r ks := by
      rcases hbc with ⟨ks, h1, h2⟩ | h
      · simp only [GoodK] at h2
        obtain ⟨q', _, _, _, e, _⟩ := h2
        cases q' <;> cases e
      · obtain ⟨r', ks, e, h1, h2⟩ := GoodH.at h
        cases e
        exact ⟨ks, h1, h2⟩
    obtain ⟨ks, hH, gk2⟩ := hbc'
    have naT : a ≠ T := fun e => by rw [e, hT] at hH; cases hH
    have hH3 : upd H2 T (.tup [.int ia, .int ib]) a = some (.dT ks) := sm a _ hH
    refine ⟨a, _, rfl, DPut.t (k := [.inl ia, .inl ib]) hH3 upd_same (by rw [gk2.len, sizeLine_eq]; omega), q σ S2 _ ((ev2.trans (Evo.same ev2.env sm)).trans (chg_evo E3 hi' ha' (.inr (GoodH.of upd_same ?_))))⟩
    exact GoodT.chg (M := fun b => b = a) ⟨fun b x h n => by rw [upd_ne n]; exact h, fun b e => by subst e; exact ⟨hbS, _, hH3, trivial⟩, fun _ h => .inl h⟩ _ _ (GoodT.put (gv.same sm) (GoodT.chg (Chg.same sm) _ _ gk2))
  · exact q.elim
end
end MP
end
section
set_option Elab.async false
set_option linter.all false
set_option autoImplicit false
set_option maxRecDepth 100000
set_option maxHeartbeats 4000001
/-! len({.. for .. in ..}), the set's items ints or texts -/
/-! PROVENANCE of MiniSc: parts of this text began as rows of the library's HandS/SetBool and were then rewritten; the plan is the library's -/
namespace MP
open L2 PpSet PySem PySem.Spec PyProof.Rows

/-- a set as it is laid, with nothing in it -/
def mtSet (w : World) : Obj := { cls := .type "set", dict := none, data := .set #[] 0 (.fresh 0 0 (!w.params.followText "set-order")) }
def noKey : Key → Bool := fun _ => false
/-- the set at D, in the tracked heap -/
def kset (P : Program) (w : World) (D : Addr) (M : Key → Bool) (n : Nat) (H : Hp) : Hp := upd H D (SetK P w D M n)
theorem mtSet_is {P : Program} {w : World} {h : Heap} : (h.push (mtSet w)).SetOf (mixKind P w) h.objs.size noKey 0 := by
  refine ⟨mtSet w, #[], 0, _, Heap.get?_push_size _ rfl, ⟨rfl, rfl, rfl⟩, rfl, fun e m => ?_, fun k => ?_, by decide, rfl, rfl⟩
  · simp at m
  · simp [noKey]
section
variable {X : Cx}
/-- what a turn does to the set: c goes in -/
def goesIn (P : Program) (w : World) (D : Addr) (Nx : Hp → Prop) (y : V) (H : Hp) : Prop :=
  ∃ (c : Key) (M : Key → Bool) (n : Nat), (y = kV c ∧ n + 1 < scanBound) ∧ H D = some (SetK P w D M n) ∧ Nx (kset P w D (fun j => M j || decide (j = c)) (if M c = true then n else n + 1) H)
/-- the wish of one item: stored, tested, its element put in -/
def itemW (P : Program) (w : World) (g : TG) (tt : TT) (te : TE) (vs : List Nat) (σ : L2.St) (D : Addr) (Nx : Hp → Prop) (x : V) (H : Hp) : Prop :=
  g x (wipe σ vs) H fun σ2 H2 => wipe σ2 vs = wipe σ vs ∧ tt σ2 H2 fun b H3 => if b = true then te σ2 H3 (goesIn P w D Nx) else Nx H3
/-- the wish at the i-th item, m bounding the turns to come -/
def stepW (P : Program) (w : World) (J : It) (g : TG) (tt : TT) (te : TE) (vs : List Nat) (σ : L2.St) (D : Addr) (W : Nat → Nat → Hp → Prop) (Qd : Hp → Prop) (i m : Nat) (H : Hp) : Prop :=
  (J.stop i H ∧ Qd H) ∨ (J.go i H ∧ ∃ Nx : Hp → Prop, (∀ H', Nx H' → ∃ m', m' < m ∧ W (i + 1) m' H') ∧ ∀ x H', J.yld i H x H' → itemW P w g tt te vs σ D Nx x H')
def tScK (P : Program) (w : World) (wi : TI) (g : TG) (tt : TT) (te : TE) (vs : List Nat) : TE := fun σ H Q => wi σ H fun J H1 => ∀ D, H1 D = none →
  ∃ W : Nat → Nat → Hp → Prop, (∃ m, W 0 m (kset P w D noKey 0 H1)) ∧ ∀ i m H, W i m H → stepW P w J g tt te vs σ D W (Q (.ref D)) i m H
/-- the state between two turns of a block: fp are the iterator's objects, τ the block's slots -/
def Mid (Y : Cx) (τ : L2.St) (fp : List Addr) (tn : Nat → Heap → Prop) (W : Nat → Nat → Hp → Prop) (m : Nat) (s : Shared) : Prop :=
  ∃ (i : Nat) (H : Hp), W i m H ∧ (∀ b ∈ fp, H b = none) ∧ tn i s.heap ∧ Inv Y [] τ H s
/-- a block keeps the iterator's objects apart -/
def Apart (Y : Cx) (fp : List Addr) : Prop := ∀ (τ : L2.St) (H : Hp) (s : Shared), Inv Y [] τ H s → (∀ b ∈ fp, H b = none) → ∀ b ∈ fp, FpOk Y [] H b
theorem apart_blk {s : Shared} {H : Hp} {scope : Scope} {ce : Env} {fp : List Addr} : Apart (X.blk s H scope ce fp) fp := by
  intro τ H' s' J free b m
  obtain ⟨k1, k2⟩ := J.ok.exf b m
  refine ⟨free b m, k1, J.ok.exfs b m, .inl m, fun x c => k2 x c, fun p z => ?_⟩
  have z' : p ∈ ([] : List (Addr × Obj)) ++ [] := z
  cases z'
section
variable {Y : Cx} {σ τ τ8 : L2.St} {vs : List Nat} {fp : List Addr} {it D : Addr} {tn : Nat → Heap → Prop} {W : Nat → Nat → Hp → Prop} {J : It} {g : TG} {tt : TT} {te : TE} {elt tg : Expr} {ifs : List Expr}
/-- a turn is over: what the pins kept is still there -/
theorem turn_over {i m : Nat} {h7 : Heap} {H : Hp} {s : Shared} (T : Turn Y.prog Y.w Y.K tg J fp it tn) (st : tn (i + 1) h7) (back : wipe τ8 vs = wipe σ vs) (I : Inv Y ([] ++ pinsAt fp h7) τ8 H s) (w : W (i + 1) m H) : Mid Y (wipe σ vs) fp tn W m s := by
  have kept : ∀ {b : Addr} {o : Obj}, b ∈ fp → h7.get? b = some o → H b = none ∧ s.heap.get? b = some o := fun {b o} mb e => by
    have z := I.pin (b, o) (List.mem_append_right _ (List.mem_append_right _ (mem_pinsAt mb e)))
    exact ⟨z.2.1, z.1⟩
  refine ⟨i + 1, H, w, fun b mb => ?_, T.keep _ _ _ st fun b mb o e => (kept mb e).2, ?_⟩
  · obtain ⟨o, e, _⟩ := T.obj _ _ st b mb
    exact (kept mb e).1
  · have len : (wipe σ vs).length = τ8.length := by rw [← back, wipe_length]
    refine (I.unpinned (pins := [])).weak len fun j v e => ?_
    rw [← back] at e
    exact (wipe_some e).1
/-- the item has come: it is stored, tested, and its element goes in -/
theorem item_in {i m : Nat} {s : Shared} {H : Hp} {x : V} {u : Value} {Nx : Hp → Prop} {E : Value → Shared → Prop} (ap : Apart Y fp) (T : Turn Y.prog Y.w Y.K tg J fp it tn) (pg : PG Y tg g) (pt : PTs Y ifs tt) (pe : PE Y elt te) (noX : ∀ e s, ¬ Y.xe e s)
    (I : Inv Y [] (wipe σ vs) H s) (r : RelV x u) (st : tn (i + 1) s.heap) (free : ∀ b ∈ fp, H b = none) (more : ∀ H', Nx H' → ∃ m', m' < m ∧ W (i + 1) m' H') (w : itemW Y.prog Y.w g tt te vs σ D Nx x H) :
    wpAny (model Y.prog Y.w) Y.A (assign tg Y.env u) (fun _ s2 => wpAny (model Y.prog Y.w) Y.A (forIn ifs true fun c r => if r = true then do let ok ← isTrue c Y.env (eval c Y.env); pure (ForInStep.yield ok) else pure (ForInStep.yield r))
      (fun ok s3 => if ok = true then wpAny (model Y.prog Y.w) Y.A (eval elt Y.env) (fun z s4 => wpAny (model Y.prog Y.w) Y.A (call (.builtin "set.add") [.ref D, z]) (fun _ s5 => ∃ m', m' < m ∧ Mid Y (wipe σ vs) fp tn W m' s5) E s4) E s3 else ∃ m', m' < m ∧ Mid Y (wipe σ vs) fp tn W m' s3) E s2) E s := by
  have quit : ∀ {α : Type} {t : Sem α} {Q Q' : α → Shared → Prop} {s : Shared}, wpAny (model Y.prog Y.w) Y.A t Q Y.xe s → (∀ a s, Q a s → Q' a s) → wpAny (model Y.prog Y.w) Y.A t Q' E s := fun h q => wpAny_mono h q fun e s z => (noX e s z).elim
  have over : ∀ {τ' : L2.St} {H' : Hp} {s' : Shared}, wipe τ' vs = wipe σ vs → Inv Y ([] ++ pinsAt fp s.heap) τ' H' s' → Nx H' → ∃ m', m' < m ∧ Mid Y (wipe σ vs) fp tn W m' s' := fun b J n => by
    obtain ⟨m', lt, w'⟩ := more _ n
    exact ⟨m', lt, turn_over T st b J w'⟩
  have I' := I.pinned (ap _ _ _ I free) (T.obj _ _ st)
  refine quit (pg.run _ s _ H x u _ I' r w) fun _ s2 ⟨σ2, H2, I2, back, w2⟩ => quit (pt.run _ s2 σ2 H2 _ I2 w2) fun ok s3 ⟨H3, I3, w3⟩ => ?_
  cases ok
  · exact over back I3 w3
  · rw [if_pos rfl] at w3 ⊢
    refine quit (pe.run _ s3 σ2 H3 _ I3 w3) fun z s4 ⟨y, H4, I4, rz, c, M, n, ⟨ey, room⟩, hD, nx⟩ => ?_
    rw [ey] at rz
    have add := mt_saddK (X := Y) ([] ++ pinsAt fp s.heap) s4 σ2 H4 (.ref D) [kV c] (.ref D) [z] (fun _ H' => Nx H') I4 rfl (.cons rz .nil) ⟨D, c, M, n, rfl, rfl, hD, room, nx⟩
    exact quit add fun _ s5 ⟨_, H5, I5, _, n5⟩ => over back I5 n5
end
theorem setComp_run {pins : List (Addr × Obj)} {s : Shared} {σ : L2.St} {H : Hp} {Q : VK} {elt tg iter : Expr} {ifs : List Expr} {scope : Scope} {own : List (Str × Nat)} {pos pos' : Pos} {wi : TI} {g : TG} {tt : TT} {te : TE} {use : Option (Value → Sem Unit)} {Qf : Value → Shared → Prop}
    (calm : X.calm = true) (nd : X.N.Nodup) (ok : BlkOk X.N X.env.scope scope own) (hi : PI X tg iter wi) (hg : BlkCx X scope fun Y => PG Y tg g) (ht : BlkCx X scope fun Y => PTs Y ifs tt) (he : BlkCx X scope fun Y => PE Y elt te) (fold : ∀ x, foldedSetIterable iter X.env x = pure x)
    (I : Inv X pins σ H s) (h : tScK X.prog X.w wi g tt te (own.map (·.2)) σ H Q)
    (fin : ∀ D C s' m H', Inv X pins σ H' s' → Q (.ref D) H' → FpOk X pins H' C → s'.heap.Ns C m → compPost (model X.prog X.w) X.A X.xe use Qf (.ref D) C (.ok .next) s') :
    wpAny (model X.prog X.w) (X.A) (comprehension (.SetComp elt [⟨tg, iter, ifs, 0⟩] scope pos) scope X.env pos' (newSet (.type "set")) false (eval iter X.env) use) Qf X.xe s := by
  have cells : ∀ y ∈ scope.names, y.2 = .free → ∃ c, X.env.cells.lookup y.1 = some c := fun y m e => (ok.free y m e).elim (fun k => I.ok.has _ (.inl k)) fun k => I.ok.has _ (.inr k)
  refine wpAny_comprehension_free (use := use) rfl fold (closure_ok cells) ok.kind (fun y m e => e ▸ ok.uniq y m) (wpAny_mono (hi.run pins s σ H _ I h) (fun v1 s1 k1 => wpAny_mono k1 (fun v2 s2 k2 => ?_) fun _ _ z => z) fun _ _ z => z)
  obtain ⟨it, fp, tn, J, H2, rfl, I2, T, t2, away, wish⟩ := k2
  refine (newSet_ok (newEnv_comp ?_))
  have hD : H2 s2.heap.objs.size = none := I2.fresh
  obtain ⟨W, ⟨m0, w0⟩, steps⟩ := wish _ hD
  -- the state with the new set
  obtain ⟨sS, eS⟩ : ∃ sS : Shared, sS = { s2 with heap := s2.heap.push (mtSet X.w) } := ⟨_, rfl⟩
  obtain ⟨HS, eH⟩ : ∃ HS, HS = kset X.prog X.w s2.heap.objs.size noKey 0 H2 := ⟨_, rfl⟩
  have grow : ∀ b o, s2.heap.get? b = some o → sS.heap.get? b = some o := fun b o e => by
    rw [eS]
    exact (Heap.get?_push_of_some _ e)
  have IS : Inv X pins σ HS sS := by
    rw [eS, eH]
    exact I2.laid (t' := s2.toks) (fun b o e => Heap.get?_push_of_some _ e) (Nat.le_refl _) (setK_new mtSet_is)
  have old : ∀ b ∈ fp, b < s2.heap.objs.size := fun b m => (T.obj _ _ t2 b m).elim fun o k => Heap.lt_size k.1
  have fpS : ∀ b ∈ fp, FpOk X pins HS b ∧ b < sS.heap.objs.size := fun b m => by
    obtain ⟨o, e, _⟩ := T.obj _ _ t2 b m
    refine ⟨⟨?_, (away b m).2⟩, Heap.lt_size (grow b o e)⟩
    rw [eH]
    exact (upd_ne (Nat.ne_of_lt (old b m))).trans (away b m).1
  have tS : tn 0 sS.heap := T.keep _ _ _ t2 fun b _ o e => grow b o e
  have I0 := block_start IS ok nd fpS
  show codeAny _ _ (.compStart (.SetComp elt [⟨tg, iter, ifs, 0⟩] scope pos) 0 (.ref it) (.ref s2.heap.objs.size) _) (compPost (model X.prog X.w) X.A X.xe use Qf (.ref s2.heap.objs.size) _) _
  have eS' : ({ s2 with heap := s2.heap.push { cls := .type "set", dict := none, data := .set #[] 0 (.fresh 0 0 (!X.w.params.followText "set-order")) } } : Shared) = sS := eS.symm
  rw [eS']
  have pg := hg sS HS sS.heap.objs.size (cellsFrom (sS.heap.objs.size + 1) scope.names (cloFrom X.env.cells scope.names [])) fp
  have pt := ht sS HS sS.heap.objs.size (cellsFrom (sS.heap.objs.size + 1) scope.names (cloFrom X.env.cells scope.names [])) fp
  have pe := he sS HS sS.heap.objs.size (cellsFrom (sS.heap.objs.size + 1) scope.names (cloFrom X.env.cells scope.names [])) fp
  have wS : W 0 m0 HS := eH ▸ w0
  obtain ⟨ce, eC⟩ : ∃ ce, ce = compEnvC scope (cellsFrom (sS.heap.objs.size + 1) scope.names (cloFrom X.env.cells scope.names [])) sS.heap.objs.size X.env := ⟨_, rfl⟩
  have own_ns : ce.locals = sS.heap.objs.size := by rw [eC]; rfl
  rw [← eC] at I0 pg pt pe
  obtain ⟨s0, e0⟩ : ∃ s0 : Shared, s0 = { sS with heap := pushCells (sS.heap.push { cls := .type "dict", data := .dict #[] }) scope.names } := ⟨_, rfl⟩
  rw [← e0] at I0
  have t0 : tn 0 s0.heap := T.keep _ _ _ tS fun b _ o e => by
    rw [e0]
    exact pushCells_keeps _ _ _ _ (Heap.get?_push_of_some _ e)
  have loop : codeAny (model X.prog X.w) X.A (.compLoop (.SetComp elt [⟨tg, iter, ifs, 0⟩] scope pos) 0 (.ref it) (.ref s2.heap.objs.size) ce) (compPost (model X.prog X.w) X.A X.xe use Qf (.ref s2.heap.objs.size) sS.heap.objs.size) s0 := by
    refine compLoopS_any (Mid (X.blk sS HS scope ce fp) (wipe σ (own.map (·.2))) fp tn W) (fun m s5 mid => ?_) m0 ⟨0, HS, wS, fun b mb => (fpS b mb).1.1, t0, I0⟩
    obtain ⟨i, H5, w5, free5, t5, I5⟩ := mid
    have fp5 := apart_blk _ _ _ I5 free5
    rcases steps i m H5 w5 with ⟨stop, q⟩ | ⟨go, Nx, more, each⟩
    · refine thnF (T.done (X.blk sS HS scope ce fp) rfl rfl rfl calm i [] s5 _ H5 (fun _ _ => False) I5 fp5 t5 stop) fun r s6 ⟨er, I6⟩ => ?_
      subst er
      obtain ⟨mm, ns, _⟩ := I6.loc
      have ns' : s6.heap.Ns sS.heap.objs.size mm := own_ns ▸ ns
      have hC : H5 sS.heap.objs.size = none := own_ns ▸ I6.free
      exact fin _ _ s6 mm H5 (IS.call' (ch := fp) I6.os I6.base I6.hok I6.bare fun b mb => let z := (fpS b mb).1; ⟨z.2.2.2.1, z.2.1, z.2.2.2.2.1, z.2.2.2.2.2⟩) q (IS.fpOk (Nat.le_refl _) hC) ns'
    · refine thnF (T.item (X.blk sS HS scope ce fp) rfl rfl rfl calm i [] s5 _ H5 (fun _ _ => False) I5 fp5 t5 go) fun r s6 ⟨u, er, k6⟩ => ?_
      subst er
      exact thnF k6 fun _ s7 ⟨x, H7, I7, r7, y7, t7, free7⟩ => item_in (Y := X.blk sS HS scope ce fp) apart_blk T pg pt pe (fun _ _ z => z) I7 r7 t7 free7 more (each x H7 y7)
  subst eC e0
  exact codeAny_compStart_set loop (T.self X.A 0 _ _ _ t0 loop)
theorem pe_scK {elt tg iter : Expr} {ifs : List Expr} {scope : Scope} {own : List (Str × Nat)} {pos : Pos} {wi : TI} {g : TG} {tt : TT} {te : TE} (calm : X.calm = true) (nd : X.N.Nodup) (hi : PI X tg iter wi) (ok : BlkOk X.N X.env.scope scope own)
    (hg : BlkCx X scope fun Y => PG Y tg g) (ht : BlkCx X scope fun Y => PTs Y ifs tt) (he : BlkCx X scope fun Y => PE Y elt te) (fold : ∀ x, foldedSetIterable iter X.env x = pure x) : PE X (.SetComp elt [⟨tg, iter, ifs, 0⟩] scope pos) (tScK X.prog X.w wi g tt te (own.map (·.2))) := by
  constructor
  intro pins s σ H Q I h
  rw [eval_SetComp]
  refine setComp_run calm nd ok hi hg ht he fold I h fun D C s' m H' I' q fp ns => ⟨m, ns, fun h2 same => ⟨.ref D, H', ?_, rfl, q⟩⟩
  exact I'.turned (t' := s'.toks) (fun b o n e => (same.2 b n).trans e) fp.1 fp.2.1 fp.2.2.2.1 fp.2.2.2.2.1 fp.2.2.2.2.2
end
/-! ### len of it -/
section
variable {X : Cx} {H0 : Hp} {W : WX} {elt tg iter : Expr} {ifs : List Expr} {mel : Sm} {cd ia : List Sm} {t : Tg} {ik : Ik} {scope : Scope} {own : List (Str × Nat)} {pos pos' p : Pos}
theorem cv_lenK : CallR X (.builtin "len") (fun xs H Q => ∃ (a : Addr) (S : Key → Bool) (n : Nat), xs = [.ref a] ∧ H a = some (SetK X.prog X.w a S n) ∧ Q (.int n) H) := by
  rintro pins s σ H xs us Q I r h
  obtain ⟨a, S, n, rfl, ha, q⟩ := h
  obtain rfl := Vals.ref1 r
  obtain ⟨o, es, ep, t, ho, hex, hd, _, _, hb, hf, hn⟩ := setK_get I ha
  have hfit : (es.size : Int) < 2 ^ 63 := by
    have : es.size < scanBound := hb
    have h2 : (scanBound : Nat) < 2 ^ 62 := by decide +kernel
    omega
  exact call_len_set ho hex hd hf hfit ⟨.int n, H, I.tok _, ⟨_, by rw [hn]⟩, q⟩
theorem dedup_snoc (x : Str) : ∀ xs : List Str, (dedup (xs ++ [x])).length = if xs.contains x = true then (dedup xs).length else (dedup xs).length + 1
  | [] => by simp [dedup]
  | y :: r => by
    have ih := dedup_snoc x r
    rw [List.cons_append]
    simp only [dedup]
    by_cases h1 : r.contains y = true
    · have e1 : (r ++ [x]).contains y = true := by
        simp only [List.contains_iff_mem] at h1 ⊢
        exact List.mem_append_left _ h1
      rw [if_pos e1, if_pos h1, ih]
      by_cases h2 : r.contains x = true
      · rw [if_pos h2, if_pos (by simp only [List.contains_iff_mem] at h2 ⊢; exact List.mem_cons_of_mem _ h2)]
      · rw [if_neg h2, if_neg (fun h => by
          simp only [List.contains_iff_mem] at h h1 h2
          rcases List.mem_cons.1 h with e | e
          · exact h2 (e ▸ h1)
          · exact h2 e)]
    · rw [if_neg h1]
      by_cases h2 : y = x
      · subst h2
        rw [if_pos (by simp only [List.contains_iff_mem]; exact List.mem_append_right _ (List.mem_singleton.mpr rfl)), ih, if_neg h1, if_pos (by simp only [List.contains_iff_mem]; exact List.mem_cons_self), List.length_cons]
      · rw [if_neg (fun h => by
          simp only [List.contains_iff_mem] at h h1
          rcases List.mem_append.mp h with e | e
          · exact h1 e
          · exact h2 (List.mem_singleton.mp e)), List.length_cons, ih, List.length_cons]
        by_cases h3 : r.contains x = true
        · rw [if_pos h3, if_pos (by simp only [List.contains_iff_mem] at h3 ⊢; exact List.mem_cons_of_mem _ h3)]
        · rw [if_neg h3, if_neg (fun h => by
            simp only [List.contains_iff_mem] at h h3
            rcases List.mem_cons.1 h with e | e
            · exact h2 e.symm
            · exact h3 e)]
theorem dedup_le : ∀ ds : List Str, (dedup ds).length ≤ ds.length
  | [] => Nat.le_refl _
  | a :: r => by
    have ih := dedup_le r
    simp only [dedup]
    by_cases c : r.contains a = true
    · rw [if_pos c, List.length_cons]; omega
    · rw [if_neg c, List.length_cons, List.length_cons]; omega
theorem asStrs_snoc {sx : Str} : ∀ {done : List PyData} {ds : List Str}, asStrs done = some ds → asStrs (done ++ [.str sx]) = some (ds ++ [sx])
  | [], ds, h => by cases h; rfl
  | a :: r, ds, h => by
    cases a with
    | str x =>
      simp only [asStrs, Option.map_eq_some_iff] at h
      obtain ⟨r', h1, h2⟩ := h
      rw [List.cons_append]
      simp only [asStrs, asStrs_snoc h1, Option.map_some, ← h2, List.cons_append]
    | _ => cases h
theorem asStrs_app : ∀ {xs ys : List PyData} {ss : List Str}, asStrs (xs ++ ys) = some ss → ∃ a b, asStrs xs = some a ∧ asStrs ys = some b ∧ ss = a ++ b
  | [], ys, ss, h => ⟨[], ss, rfl, h, rfl⟩
  | .str x :: xs, ys, ss, h => by
    simp only [List.cons_append, asStrs, Option.map_eq_some_iff] at h
    obtain ⟨r, h1, h2⟩ := h
    obtain ⟨a, b, e1, e2, e3⟩ := asStrs_app h1
    exact ⟨x :: a, b, by simp only [asStrs, e1, Option.map_some], e2, by rw [← h2, e3]; rfl⟩
  | .none :: _, _, _, h => by cases h
  | .bool _ :: _, _, _, h => by cases h
  | .int _ :: _, _, _, h => by cases h
  | .list _ :: _, _, _, h => by cases h
  | .tuple _ :: _, _, _, h => by cases h
  | .dict _ :: _, _, _, h => by cases h
theorem ls_read {σ : L2.St} {H : Hp} {Q : VK} (hv : own.map (·.2) = tgSlots t) (h : tV X.K H0 W (v_ls mel t ik ia cd) σ H Q) :
    tScK X.prog X.w (tI X.K H0 W ik ia) (exG fun H0 => tB X.K H0 (bindTg t) (tgSlots t)) (exE fun H0 => tT X.K H0 noW (evC cd)) (exE fun H0 => tV X.K H0 noW mel.v) (own.map (·.2)) σ H fun v H1 => ∃ (a : Addr) (S : Key → Bool) (n : Nat), [v] = [.ref a] ∧ H1 a = some (SetK X.prog X.w a S n) ∧ Q (.int n) H1 := by
  rw [hv]
  obtain ⟨S, ρ, E, h⟩ := h
  refine ⟨S, ρ, E, Aft.thn (Aft.bind h) fun S1 H1 ρ1 os ev q => ?_⟩
  obtain ⟨items, ρ2, r, ρ3, ρ4, hi, h2, hk, h4, q⟩ := walkC_at q
  refine ⟨items, hi, fun J ok hw ho D hD => ?_⟩
  cases hc : compL (turnC t cd fun ρ => (mel.v ρ).bind fun d ρ => .ok d.1 ρ) items ρ2 with
  | st => rw [hc] at hk; cases hk
  | ex c z => rw [hc] at hk; cases hk
  | ok ys ρe =>
    rw [hc] at hk
    simp only [R.bind] at hk
    cases hss : asStrs ys with
    | none => rw [hss] at hk; cases hk
    | some ss =>
    rw [hss] at hk
    simp only [optB] at hk
    by_cases hb : ss.length ≤ 1000
    · rw [if_pos hb] at hk
      cases hk
      have EL := (lock_evo ev.env os).env
      have scan : (1001 : Nat) < scanBound := by decide +kernel
      refine ⟨fun i m Hc => m = items.length - i ∧ i ≤ items.length ∧ ∃ Sc ρc done rest ds Sk, Blk X.K H0 σ S1 H1 (lockO ρ1 os) (tgSlots t) D Sc Hc ρc ∧ Hc D = some (SetK X.prog X.w D Sk (dedup ds).length) ∧ asStrs done = some ds ∧ (∀ x, Sk (.inr x) = ds.contains x) ∧
        compL (turnC t cd fun ρ => (mel.v ρ).bind fun d ρ => .ok d.1 ρ) (items.drop i) ρc = .ok rest ρ3 ∧ ys = done ++ rest, ⟨items.length, rfl, Nat.zero_le _, D :: S1, ρ2, [], ys, [], _, Blk.start EL h2 hD, upd_same, rfl, fun _ => rfl, by rw [List.drop_zero]; exact hc, rfl⟩, ?_⟩
      rintro i m Hc ⟨em, hle, Sc, ρc, done, rest, ds, Sk, B, hacc, hds, hSk, hrun, hys⟩
      have hok := (hw H0).evo EL B.ev ho
      by_cases hlt : i < items.length
      · have hget : items[i]? = some items[i] := List.getElem?_eq_getElem hlt
        have hdr : items.drop i = items[i] :: items.drop (i + 1) := List.drop_eq_getElem_cons hlt
        rw [hdr] at hrun
        obtain ⟨o, ρn, zs, hf, hr, hrest⟩ := compL_cons hrun
        obtain ⟨ρb, ρt, tt, hbind, htest, hcase⟩ := turnC_ok hf
        refine .inr ⟨(hw H0).go hok hlt, fun Hn => ∃ Sn ρn' done' rest' ds' Sk', Blk X.K H0 σ S1 H1 (lockO ρ1 os) (tgSlots t) D Sn Hn ρn' ∧ Hn D = some (SetK X.prog X.w D Sk' (dedup ds').length) ∧ asStrs done' = some ds' ∧ (∀ x, Sk' (.inr x) = ds'.contains x) ∧
          compL (turnC t cd fun ρ => (mel.v ρ).bind fun d ρ => .ok d.1 ρ) (items.drop (i + 1)) ρn' = .ok rest' ρ3 ∧ ys = done' ++ rest', fun Hn hn => ⟨items.length - (i + 1), by omega, rfl, hlt, hn⟩, fun x H' hy => ?_⟩
        obtain ⟨sm, gx⟩ := (hw (upd H0 D (.lst []))).yld B.en hok hy hget
        have e0 : Evo X.K (upd H0 D (.lst [])) (wipe σ (tgSlots t)) Sc Hc ρc (wipe σ (tgSlots t)) Sc H' ρc := Evo.same B.en sm
        refine ⟨upd H0 D (.lst []), Sc, ρc, items[i], ρb, e0.env, gx, hbind, fun σ2 e1 k1 l1 => ?_⟩
        have hw2 : wipe σ2 (tgSlots t) = wipe σ (tgSlots t) := by
          refine wipe_ext (l1.trans (wipe_length _ _)) fun j hj => ?_
          rw [k1 j hj, wipe_out hj]
        refine ⟨hw2, upd H0 D (.lst []), Sc, ρb, e1.env, ?_⟩
        rw [htest]
        intro S3 H3 e2
        have e02 := (e0.trans e1).trans e2
        have fin : ∀ {S4 H4 ρ3'}, Evo X.K (upd H0 D (.lst [])) (wipe σ (tgSlots t)) Sc Hc ρc σ2 S4 H4 ρ3' → wipeR (tgSlots t) ρ3' = some ρn → Blk X.K H0 σ S1 H1 (lockO ρ1 os) (tgSlots t) D S4 H4 ρn ∧ H4 D = some (SetK X.prog X.w D Sk (dedup ds).length) := fun {S4 H4 ρ3'} e3 hwp => by
          have e4 := wipe_evo e3.env hwp
          rw [hw2] at e4
          have e5 := e3.trans e4
          obtain ⟨r1, r2⟩ := e5.res hacc B.na
          exact ⟨⟨B.ev.trans e5.unres, e5.env, e5.old D B.mem (by rw [upd_same]; exact fun z => nomatch z), r2⟩, r1⟩
        rcases hcase with ⟨et, d, ρ3', hel, hwp, eo⟩ | ⟨et, hwp, eo⟩
        · subst et eo
          refine iteT ?_
          refine ⟨upd H0 D (.lst []), S3, ρt, e2.env, ?_⟩
          cases hm : mel.v ρt with
          | st => rw [hm] at hel; cases hel
          | ex c z => rw [hm] at hel; cases hel
          | ok dv ρ5 =>
            rw [hm] at hel
            simp only [R.bind] at hel
            cases hel
            intro S4 H4 e3 y gy _
            obtain ⟨b1, b3⟩ := fin (e02.trans e3) hwp
            have hall := hss
            rw [hys, hrest] at hall
            obtain ⟨a1, a2, q1, q2, q3⟩ := asStrs_app hall
            rw [hds] at q1
            cases q1
            -- the text that comes
            have hdv : ∃ sx r2, dv.1 = .str sx ∧ a2 = sx :: r2 := by
              cases hd1 : dv.1 with
              | str sx =>
                rw [hd1] at q2
                simp only [asStrs, Option.map_eq_some_iff] at q2
                obtain ⟨r2, _, e⟩ := q2
                exact ⟨sx, r2, rfl, e.symm⟩
              | _ => rw [hd1] at q2; cases q2
            obtain ⟨sx, r2, e1', e2'⟩ := hdv
            rw [e1'] at gy
            simp only [Good] at gy
            subst gy
            have hdl := dedup_le ds
            have hln : ds.length + 1 ≤ 1000 := by
              have : ss.length = ds.length + a2.length := by rw [q3, List.length_append]
              rw [e2', List.length_cons] at this
              omega
            refine ⟨.inr sx, Sk, (dedup ds).length, ⟨rfl, by omega⟩, b3, S4, ρn, done ++ [dv.1], zs, ds ++ [sx], (fun j => Sk j || decide (j = Sum.inr sx)), ⟨b1.ev.put hD b1.mem b3 trivial b1.na, b1.en.put b1.mem b3 trivial b1.na, b1.mem, b1.na⟩, ?_, ?_, ?_, hr, ?_⟩
            · unfold kset
              rw [upd_same, dedup_snoc, hSk]
            · rw [e1']
              exact asStrs_snoc hds
            · intro x
              show (Sk (.inr x) || decide ((Sum.inr x : Key) = .inr sx)) = _
              rw [hSk, Bool.eq_iff_iff]
              simp only [Bool.or_eq_true, decide_eq_true_eq, List.contains_iff_mem, List.mem_append, List.mem_singleton]
              constructor
              · rintro (z | z)
                · exact .inl z
                · exact .inr (Sum.inr.inj z)
              · rintro (z | z)
                · exact .inl z
                · exact .inr (by rw [z])
            · rw [hys, hrest]
              simp
        · subst et eo
          refine iteF ?_
          obtain ⟨b1, b3⟩ := fin e02 hwp
          exact ⟨S3, ρn, done, zs, ds, Sk, b1, b3, hds, hSk, hr, by rw [hys, hrest]⟩
      · have ei : i = items.length := by omega
        subst ei
        rw [List.drop_length] at hrun
        simp only [compL] at hrun
        cases hrun
        refine .inl ⟨(hw H0).stop hok, D, Sk, (dedup ds).length, rfl, hacc, ?_⟩
        have e1 := B.ev.unwipe EL (fun i t d h => rfl)
        have e2 := unlock_evo ev.env e1 h4
        rw [List.append_nil] at hys
        subst hys
        rw [hss] at hds
        cases hds
        exact q Sc Hc e2 (.int (dedup ss).length) (by simp only [Good]) fun z => nomatch z
    · rw [if_neg hb] at hk
      cases hk
theorem sv_ls (hc : X.calm = true) (hN : X.N.Nodup) (hi : PI X tg iter (tI X.K H0 W ik ia)) (ok : BlkOk X.N X.env.scope scope own) (hv : own.map (·.2) = tgSlots t)
    (hg : BlkCx X scope fun X' => ∀ H0, PG X' tg (tB X'.K H0 (bindTg t) (tgSlots t))) (hcd : BlkCx X scope fun X' => ∀ H0, SVs X' H0 noW ifs cd) (hl : cd.length ≤ 1) (he : BlkCx X scope fun X' => ∀ H0, SV X' H0 noW elt mel)
    (hs : ∀ x, foldedSetIterable iter X.env x = pure x) (hgl : Gl X "len") (hm : X.mg "len" = none) : SV X H0 W (.Call (.Name "len" p) [.SetComp elt [⟨tg, iter, ifs, 0⟩] scope pos'] [] pos) (MP.mk (v_ls mel t ik ia cd)) :=
  SV.mk' (PE.weak (pe_callB cv_lenK hgl hm boot_len (pa_cons (pe_scK hc hN hi ok (fun s H C cl fp => PG.ex (hg s H C cl fp)) (fun s H C cl fp => PTs.ex fun H0 => pts_of (hcd s H C cl fp H0) hl) (fun s H C cl fp => PE.ex fun H0 => (he s H C cl fp H0).v) hs) pa_nil)) fun σ H Q h => ls_read hv h) fun _ => rfl
end
end MP
end
section
set_option Elab.async false
set_option linter.all false
set_option autoImplicit false
set_option maxRecDepth 100000
set_option maxHeartbeats 4000001
/-! set(xs), sorted(set(xs)) for a list of texts. Own; it leans on callType_codes, code_set_led1, collect_set, add_x and TxOk of the library. -/
namespace MP
open L2 PyProof.Rows PySem.Spec PySem

abbrev newSetO (w : World) : Obj := { cls := .type "set", dict := none, data := .set #[] 0 (.fresh 0 0 (!w.params.followText "set-order")) }
abbrev listIt (l : Addr) : Obj := { cls := .type "list_iterator", data := .fields #[.ref l, .int 0 0] }
/-- where the loop of update begins -/
abbrev atLoop (w : World) (s : Shared) (l : Addr) : Shared := { s with heap := (s.heap.push (newSetO w)).push (listIt l) }
section
variable {P : Program} {w : World} {A : Around} {E : Value → Shared → Prop} {s : Shared} {l : Addr} {items : Array Value}
/-- set(x): what __new__ and __init__ do -/
theorem set_of_one {x : Value} {Q : Value → Shared → Prop}
    (go : ∀ B : Around, B.handled = A.handled → codeAny (model P w) B (.call (.builtin "set.__init__") ⟨[.ref s.heap.objs.size, x], []⟩) (wants (fun r t => r = .none ∧ Q (.ref s.heap.objs.size) t) E) { s with heap := s.heap.push (newSetO w) }) :
    wpAny (model P w) A (call (.type "set") [x]) Q E s := by
  have T := F.called_set
  obtain ⟨m1, m2, mro⟩ := T.mro
  have f1 := T.made
  have f2 := T.sub
  have f3 := T.notType
  have f4 := T.canCreate
  have f5 := F.typeCall_set_1 x
  have f6 := T.init.lookup
  have f7 := T.init.bind (.ref s.heap.objs.size)
  apply wpAny_call
  apply codeAny_of_tree
  change wpAny _ _ (callAny (.type "set") ⟨[x], []⟩) _ _ _
  apply wpAny_pure
  refine And.intro (Code.quiet_builtin _ (by decide +kernel)) ?_
  apply codeAny_builtin F.entry_type_call
  rw [Around.under_plain rfl rfl]
  wp_walk
  apply codeAny_mono (code_set_led1 x (E := E) (Q₁ := fun v t => v = .ref s.heap.objs.size ∧ t = { s with heap := s.heap.push (newSetO w) }) ⟨rfl, rfl⟩)
  intro r t h
  cases r with
  | error y => exact h
  | ok f => cases f with
    | ret v =>
      obtain ⟨rfl, rfl⟩ := h
      have atS : (s.heap.push (newSetO w)).get? s.heap.objs.size = some (newSetO w) := Heap.get?_push_size _ rfl
      have isS : Shared.TypeIs { s with heap := s.heap.push (newSetO w) } (.ref s.heap.objs.size) "set" := ⟨_, atS, rfl⟩
      wp_walk
      apply codeAny_mono (go _ (by simp))
      intro r t h
      cases r with
      | error y => exact h
      | ok f => cases f with
        | ret v =>
          obtain ⟨rfl, q⟩ := h
          wp_walk
          exact q
        | _ => exact h.elim
    | _ => exact h.elim
/-- set(xs): the loop of update, over the list's iterator -/
theorem set_of_list {Q : Value → Shared → Prop} (hl : s.heap.IsList l items)
    (go : ∀ B : Around, B.handled = A.handled → codeAny (model P w) B (.builtin "set.update.loop" ⟨[.ref s.heap.objs.size, .ref (s.heap.objs.size + 1)], []⟩) (wants (fun r t => r = .none ∧ Q (.ref s.heap.objs.size) t) E) (atLoop w s l)) : wpAny (model P w) A (call (.type "set") [.ref l]) Q E s := by
  refine set_of_one fun B hB => ?_
  have atS : (s.heap.push (newSetO w)).get? s.heap.objs.size = some (newSetO w) := Heap.get?_push_size _ rfl
  have isS : Shared.TypeIs { s with heap := s.heap.push (newSetO w) } (.ref s.heap.objs.size) "set" := ⟨_, atS, rfl⟩
  refine codeAny_call_builtin F.called_set.init.plain F.entry_set_init (check_set_init_1 isS ?_)
  rcases hl with ⟨⟨_, od, _, sl⟩, ho, hc, n, hd⟩
  cases hc
  cases hd
  have atL : (s.heap.push (newSetO w)).get? l = some { cls := .type "list", dict := od, data := .seq items n, slots := sl } := Heap.get?_push_of_some _ ho
  have isL : (s.heap.push (newSetO w)).IsList l items := ⟨_, atL, rfl, n, rfl⟩
  have n1 := PySem.F.sub_list_set
  have n2 := PySem.F.sub_list_frozenset
  have n3 : (Value.type "list" == Value.type "dict") = false := by decide
  unfold Builtin.«set.__init__» Builtin.Frozenset.updateFrom noKeywords
  generalize hPI : pyIter = PI
  wp_walk
  subst hPI
  apply wpAny_pyIter_list isL
  apply wpAny_bind
  apply wpAny_runValue
  have e : (s.heap.push (newSetO w)).objs.size = s.heap.objs.size + 1 := Heap.size_push ..
  rw [e]
  refine codeAny_mono (go _ (by simp [hB])) fun r t h => ?_
  cases r with
  | error x => exact h
  | ok f => cases f with
    | ret x =>
      obtain ⟨rfl, q⟩ := h
      exact wpAny_pure (wpAny_pure ⟨rfl, q⟩)
    | _ => exact h.elim
end
/-! ### the texts of a set -/
/-- the set at a holds the texts k, each once; it can be walked -/
def Tx (P : Program) (w : World) (h : Heap) (a : Addr) (k : List Str) : Prop :=
  ∃ D : Froz.SD, h.get? a = some (Froz.sObj "set" D) ∧ Froz.TxOk P w D k ∧ k.Nodup ∧ L2.Ris D.2.2.place.toList ∧ (w.params.followText "set-order" = true ∨ D.2.2.led = true)
section
variable {P : Program} {w : World} {A : Around} {E : Value → Shared → Prop} {s : Shared} {a : Addr} {k : List Str}
theorem Tx.at {h h' : Heap} (T : Tx P w h a k) (q : ∀ o, h.get? a = some o → h'.get? a = some o) : Tx P w h' a k := by
  obtain ⟨D, h1, r⟩ := T
  exact ⟨D, q _ h1, r⟩
theorem Tx.fresh {h : Heap} (ho : h.get? a = some (newSetO w)) : Tx P w h a [] := by
  refine ⟨(#[], 0, .fresh 0 0 (!w.params.followText "set-order")), ho, Froz.TxOk.nil (by rfl), List.nodup_nil, List.Pairwise.nil, ?_⟩
  rcases Bool.eq_false_or_eq_true (w.params.followText "set-order") with e | e
  · exact .inl e
  · refine .inr ?_
    change (!w.params.followText "set-order") = _
    rw [e, Bool.not_false]
theorem tail_ris {ep : Nat} {es : Array (Int × Value)} {t : SetTable} {b : Bool} (h : L2.Ris t.place.toList) : L2.Ris (Froz.tailTx ep es t b).2.2.place.toList := by
  unfold Froz.tailTx
  split
  · exact relayAll_ris _ _ _
  · exact h
theorem tail_led {ep : Nat} {es : Array (Int × Value)} {t : SetTable} {b : Bool} : (Froz.tailTx ep es t b).2.2.led = t.led := by
  unfold Froz.tailTx
  split
  · exact relayAll_led _ _ _
  · rfl
theorem add_tab {D : Froz.SD} {i : Int} {v : Value} : (L2.Ris D.2.2.place.toList → L2.Ris (Froz.addTx i v D).2.2.place.toList) ∧ (Froz.addTx i v D).2.2.led = D.2.2.led := by
  have q := layNew_led D.2.2 D.1 i v
  unfold Froz.addTx
  refine ⟨fun h => tail_ris ?_, tail_led.trans ?_⟩
  · have := layNew_ris D.2.2 D.1 i v h
    split <;> exact this
  · split <;> exact q
/-- a text goes into the set -/
theorem Tx.add {x : Str} {u : Tok} {Q : Bool → Shared → Prop} (T : Tx P w s.heap a k) (hb : k.length + 1 < scanBound)
    (h : ∀ b h' k', (∀ c o, c ≠ a → s.heap.get? c = some o → h'.get? c = some o) → k' = (if x ∈ k then k else x :: k) → Tx P w h' a k' → Q b { s with heap := h' }) :
    wpAny (model P w) A (setAddHashed a (.str x u) (hashStr w x)) Q E s := by
  obtain ⟨D, ho, F, nd, hr, hl⟩ := T
  by_cases m : x ∈ k
  · obtain ⟨es, ep, t⟩ := D
    obtain ⟨e, he, hx⟩ := (F.mem x).mp m
    have lt : es.size < scanBound := by
      have := F.sz
      simp only at this
      omega
    rw [setAddHashed]
    apply wpAny_holding
    rw [setAddHashedIn]
    apply wpAny_bind
    refine wpAny_setState_of ho rfl F.fit ?_
    dsimp only
    rw [byScan_of (x := .str x u) rfl lt F.el, if_pos rfl]
    unfold setAddByScan
    refine wpAny_bind (wpAny_bind (wpAny_rule (wpAny_bind ?_)))
    refine wpAny_setScan_of (knd := strKind P w) (k := x) (Froz.is_str x u) ho rfl F.fit F.el ?_
    cases hf : es.toList.findIdx? (fun e => (strKind P w).is x e.2) with
    | none =>
      rw [List.findIdx?_eq_none_iff] at hf
      rw [hf e he] at hx
      cases hx
    | some j =>
      refine wpAny_pure (wpAny_pure (h false s.heap k (fun _ _ _ q => q) (by rw [if_pos m]) ⟨_, ho, F, nd, hr, hl⟩))
  · refine Froz.add_x ho F m hb (h true _ (x :: k) (fun c o n q => Heap.get?_update_of_ne _ (Ne.symm n) q) (by rw [if_neg m]) ⟨_, Froz.get_upd _ ho rfl, Froz.add_ok u F, List.nodup_cons.mpr ⟨m, nd⟩, add_tab.1 hr, by rw [add_tab.2]; exact hl⟩)
end
end MP
end
section
set_option Elab.async false
set_option linter.all false
set_option autoImplicit false
set_option maxRecDepth 100000
set_option maxHeartbeats 4000001
namespace MP
open L2 PyProof.Rows PySem.Spec PySem

section
variable {P : Program} {w : World} {R : Result → Shared → Prop} {a I l : Addr} {items : Array Value} {xs : List Str}
/-- the loop: the rest of the list goes into the set -/
theorem tx_loop {B : Around} (s : Shared) (hh : B.handled = none) (hne : l ≠ I) (haI : a ≠ I) (hal : a ≠ l) (hv : ∀ (i : Nat) (v : Value), items[i]? = some v → ∃ x t, xs[i]? = some x ∧ v = .str x t) (hz : xs.length = items.size) (hb : xs.length + 1 < scanBound) :
    ∀ (n i : Nat) (h : Heap) (tk : Nat) (k : List Str), items.size - i = n → i ≤ items.size → h.IsListIter I l i ∧ h.IsList l items → Tx P w h a k → (∀ x, x ∈ k ↔ x ∈ xs.take i) → k.length ≤ i →
      (∀ h' tk' k', (∀ b o, b ≠ a → b ≠ I → h.get? b = some o → h'.get? b = some o) → Tx P w h' a k' → (∀ x, x ∈ k' ↔ x ∈ xs) → k'.length ≤ xs.length → R (.ok (.ret .none)) { s with heap := h', toks := tk' }) →
      codeAny (model P w) B (.builtin "set.update.loop" ⟨[.ref a, .ref I], []⟩) R { s with heap := h, toks := tk } := by
  have W := Walks.list (prog := P) (w := w) (A := B.in1) (by simp [hh]) I l hne items
  have ins : ∀ {b : Addr}, b ≠ I → b ∉ [I] := fun n m => n (List.mem_singleton.mp m)
  intro n
  induction n with
  | zero =>
    intro i h tk k hn hi st T hk hl go
    obtain rfl : i = items.size := by omega
    apply codeAny_builtin F.entry_set_update_loop
    rw [Around.under_plainId F.plain_set_update_loop]
    change wpAny _ B.in1 (pyNext (.ref I) >>= _) _ _ _
    apply wpAny_bind
    refine W.done _ _ _ st fun h' tk' keep => wpAny_pure (go h' tk' k (fun b o _ n2 q => keep b o (ins n2) q) (T.at fun o q => keep a o (ins haI) q) (fun x => ?_) (by omega))
    rw [hk x, ← hz, List.take_length]
  | succ n ih =>
    intro i h tk k hn hi st T hk hl go
    have lt : i < items.size := by omega
    apply codeAny_builtin F.entry_set_update_loop
    rw [Around.under_plainId F.plain_set_update_loop]
    change wpAny _ B.in1 (pyNext (.ref I) >>= _) _ _ _
    apply wpAny_bind
    refine W.item i _ _ _ lt st fun v h' tk' hP st' keep => ?_
    obtain ⟨x, t, hx, rfl⟩ := hv i v hP
    change wpAny _ B.in1 (holding [Value.str x t] (setAdd a (.str x t)) >>= _) _ _ _
    apply wpAny_bind
    apply wpAny_holding
    unfold setAdd
    apply wpAny_holding
    apply wpAny_bind
    refine (strKind P w).pyHash (k := x) (Froz.is_str _ _) ?_
    refine Tx.add (s := { s with heap := h', toks := tk' + 1 }) (T.at fun o q => keep a o (ins haI) q) (by omega) fun b h2 k2 keep2 ek T2 => ?_
    have tk1 : xs.take (i + 1) = xs.take i ++ [x] := by rw [List.take_add_one, hx]; rfl
    refine wpAny_pure ⟨plainId_quiet F.plain_set_update_loop _, ih (i + 1) h2 _ k2 (by omega) lt (W.frame _ _ _ st' fun b hb o q => keep2 b o ?_ q) T2 (fun y => ?_) ?_ fun h3 tk3 k3 q1 q2 q3 q4 => go h3 tk3 k3 (fun b o n1 n2 q => q1 b o n1 n2 (keep2 b o n1 (keep b o (ins n2) q))) q2 q3 q4⟩
    · rcases List.mem_cons.mp hb with e | e
      · exact fun z => haI (z.symm.trans e)
      · exact fun z => hal (z.symm.trans (List.mem_singleton.mp e))
    · rw [tk1, List.mem_append, List.mem_singleton, ← hk y, ek]
      split
      · rename_i m
        exact ⟨.inl, fun q => q.elim id fun e => e ▸ m⟩
      · rw [List.mem_cons]
        exact Or.comm
    · rw [ek]
      split
      · omega
      · rw [List.length_cons]; omega
/-- set(xs) of a list of texts -/
theorem set_texts {A : Around} {E : Value → Shared → Prop} {s : Shared} {Q : Value → Shared → Prop} (hh : A.handled = none) (hl : s.heap.IsList l items) (hv : ∀ (i : Nat) (v : Value), items[i]? = some v → ∃ x t, xs[i]? = some x ∧ v = .str x t) (hz : xs.length = items.size) (hb : xs.length + 1 < scanBound)
    (go : ∀ h' tk k, (∀ b o, s.heap.get? b = some o → h'.get? b = some o) → Tx P w h' s.heap.objs.size k → (∀ x, x ∈ k ↔ x ∈ xs) → k.length ≤ xs.length → Q (.ref s.heap.objs.size) { s with heap := h', toks := tk }) : wpAny (model P w) A (call (.type "set") [.ref l]) Q E s := by
  refine set_of_list hl fun B hB => ?_
  have hls : l < s.heap.objs.size := by
    obtain ⟨o, ho, _⟩ := hl
    exact Heap.lt_size ho
  have z1 : (s.heap.push (newSetO w)).objs.size = s.heap.objs.size + 1 := Heap.size_push ..
  have at1 : ((s.heap.push (newSetO w)).push (listIt l)).get? (s.heap.objs.size + 1) = some (listIt l) := by
    rw [← z1]; exact Heap.get?_push_size _ rfl
  refine tx_loop (a := s.heap.objs.size) (I := s.heap.objs.size + 1) s (hB.trans hh) (Nat.ne_of_lt (Nat.lt_succ_of_lt hls)) (Nat.ne_of_lt (Nat.lt_succ_self _)) (Nat.ne_of_gt hls) hv hz hb items.size 0 _ s.toks [] (by omega) (Nat.zero_le _) ⟨⟨_, at1, rfl, rfl⟩, (hl.push _).push _⟩ (Tx.fresh (Heap.get?_push_of_some _ (Heap.get?_push_size _ rfl))) (fun x => by simp) (Nat.le_refl _) fun h' tk' k' keep T m z => ⟨rfl, go h' tk' k' (fun b o q => keep b o ?_ ?_ (Heap.get?_push_of_some _ (Heap.get?_push_of_some _ q))) T m z⟩
  · exact Nat.ne_of_lt (Heap.lt_size q)
  · exact Nat.ne_of_lt (Nat.lt_succ_of_lt (Heap.lt_size q))
end
/-! ### sorted rows of texts -/
theorem dle_s (a b : Str) : dle (.str a) (.str b) = !ltStr b a := by
  change (!PySem.W.dataLt (.str b) (.str a)) = _
  rw [PySem.W.dataLt_str, ltStr]
theorem pw_perm {α : Type} {le : α → α → Bool} : ∀ {p q : List α}, p.Perm q → p.Pairwise (fun a b => le a b = true) → q.Pairwise (fun a b => le a b = true) → (∀ x y, x ∈ p → y ∈ p → le x y = true → le y x = true → x = y) → p = q
  | [], q, h, _, _, _ => (List.Perm.nil_eq h)
  | x :: p, [], h, _, _, _ => absurd (List.Perm.length_eq h) (by simp)
  | x :: p, y :: q, h, h1, h2, an => by
    obtain ⟨a1, a2⟩ := List.pairwise_cons.mp h1
    obtain ⟨b1, b2⟩ := List.pairwise_cons.mp h2
    have e : x = y := by
      have mx : x ∈ y :: q := h.mem_iff.mp List.mem_cons_self
      have my : y ∈ x :: p := h.mem_iff.mpr List.mem_cons_self
      rcases List.mem_cons.mp mx with e | mx
      · exact e
      · rcases List.mem_cons.mp my with e | my
        · exact e.symm
        · exact an x y List.mem_cons_self (List.mem_cons_of_mem _ my) (a1 y my) (b1 x mx)
    subst e
    rw [pw_perm ((List.perm_cons x).mp h) a2 b2 fun u v m1 m2 => an u v (List.mem_cons_of_mem _ m1) (List.mem_cons_of_mem _ m2)]
theorem mem_dedup (x : Str) : ∀ ss : List Str, x ∈ dedup ss ↔ x ∈ ss
  | [] => Iff.rfl
  | y :: r => by
    unfold dedup
    split
    · rename_i h
      rw [mem_dedup x r, List.mem_cons]
      exact ⟨.inr, fun q => q.elim (fun e => e ▸ List.contains_iff_mem.mp h) id⟩
    · rw [List.mem_cons, List.mem_cons, mem_dedup x r]
theorem nodup_dedup : ∀ ss : List Str, (dedup ss).Nodup
  | [] => List.nodup_nil
  | y :: r => by
    unfold dedup
    split
    · exact nodup_dedup r
    · rename_i h
      exact List.nodup_cons.mpr ⟨fun m => h (List.contains_iff_mem.mpr ((mem_dedup y r).mp m)), nodup_dedup r⟩
theorem dle_anti {x y : Str} (h1 : dle (.str x) (.str y) = true) (h2 : dle (.str y) (.str x) = true) : x = y := by
  rw [dle_s, Bool.not_eq_true', ltStr, decide_eq_false_iff_not] at h1 h2
  exact PySem.W.str_of_cps (List.le_antisymm h1 h2)
/-- one row of texts, in whatever order it was met -/
theorem sort_one {k : List Str} {ss : List Str} (nd : k.Nodup) (m : ∀ x, x ∈ k ↔ x ∈ ss) : (k.map PyData.str).mergeSort dle = isort dle ((dedup ss).map .str) := by
  have pm : k.Perm (dedup ss) := (List.perm_ext_iff_of_nodup nd (nodup_dedup ss)).mpr fun x => by rw [m x, mem_dedup]
  rw [isort_eq dle_total]
  refine pw_perm (((List.mergeSort_perm _ _).trans (pm.map _)).trans (List.mergeSort_perm _ _).symm) (PySem.W.sort_pairwise dle_total _) (PySem.W.sort_pairwise dle_total _) fun x y hx hy h1 h2 => ?_
  obtain ⟨a, _, rfl⟩ := List.mem_map.mp ((List.mergeSort_perm _ _).mem_iff.mp hx)
  obtain ⟨b, _, rfl⟩ := List.mem_map.mp ((List.mergeSort_perm _ _).mem_iff.mp hy)
  rw [dle_anti h1 h2]
end MP
end
section
set_option Elab.async false
set_option linter.all false
set_option autoImplicit false
set_option maxRecDepth 100000
set_option maxHeartbeats 4000001
namespace MP
open L2 PyProof.Rows PySem.Spec PySem

def txt : Value → Str
  | .str x _ => x
  | _ => Str.empty
def IsTxt (v : Value) (x : Str) : Prop := ∃ t, v = .str x t
theorem perm_of_len : ∀ {l m : List Str}, l.Nodup → (∀ x, x ∈ l → x ∈ m) → m.length ≤ l.length → l.Perm m
  | [], m, _, _, h => by
    have : m = [] := List.eq_nil_of_length_eq_zero (Nat.le_zero.mp h)
    rw [this]
  | x :: l, m, nd, sub, h => by
    rcases List.nodup_cons.mp nd with ⟨n1, n2⟩
    have mx : x ∈ m := sub x List.mem_cons_self
    have le := List.length_erase_of_mem mx
    have pos := List.length_pos_of_mem mx
    rw [List.length_cons] at h
    refine List.Perm.trans (List.Perm.cons x (perm_of_len n2 (fun y my => (List.mem_erase_of_ne ?_).mpr (sub y (List.mem_cons_of_mem _ my))) (by omega))) (List.perm_cons_erase mx).symm
    exact fun e => n1 (e ▸ my)
theorem each_txt : ∀ vs : List Value, (∀ v, v ∈ vs → ∃ x, IsTxt v x) → PySem.W.EachIs IsTxt vs (vs.map txt)
  | [], _ => .nil
  | v :: vs, h => .cons (by obtain ⟨x, t, rfl⟩ := h v List.mem_cons_self; exact ⟨t, rfl⟩) (each_txt vs fun u m => h u (List.mem_cons_of_mem _ m))
section
variable {P : Program} {w : World} {A : Around} {E : Value → Shared → Prop} {s : Shared} {a : Addr} {k : List Str}
theorem kind_txt {x : Str} {v : Value} (h : (strKind P w).is x v = true) : IsTxt v x := by
  cases v <;> first | (cases h; done) | skip
  rename_i y t
  have e : (y == x) = true := h
  exact ⟨t, by rw [beq_iff_eq.mp e]⟩
theorem Tx.rows (T : Tx P w s.heap a k) : ∃ es ep t, SetAt s.heap a es ep t ∧ t.fits es.size = true ∧ es.size = k.length ∧ L2.Ris t.place.toList ∧ (w.params.followText "set-order" = true ∨ t.led = true) ∧ (∀ v, v ∈ es.toList.map (·.2) → ∃ x, IsTxt v x) ∧ k.Perm ((es.toList.map (·.2)).map txt) := by
  obtain ⟨⟨es, ep, t⟩, ho, F, nd, hr, hl⟩ := T
  have tx : ∀ v, v ∈ es.toList.map (·.2) → ∃ x, IsTxt v x := fun v m => by
    obtain ⟨e, he, rfl⟩ := List.mem_map.mp m
    obtain ⟨⟨x, hx, _⟩, _⟩ := F.el e he
    exact ⟨x, kind_txt hx⟩
  refine ⟨es, ep, t, ⟨_, ho, rfl, rfl⟩, F.fit, F.sz, hr, hl, tx, perm_of_len nd (fun x m => ?_) ?_⟩
  · obtain ⟨e, he, hx⟩ := (F.mem x).mp m
    obtain ⟨u, eu⟩ := kind_txt hx
    exact List.mem_map.mpr ⟨e.2, List.mem_map.mpr ⟨e, he, rfl⟩, by rw [eu]; rfl⟩
  · rw [List.length_map, List.length_map, Array.length_toList]
    exact Nat.le_of_eq F.sz
theorem texts_alike (l : List Str) : PySem.W.AllAlike (l.map PyData.str) ∧ PySem.W.Sortable (l.map PyData.str) := by
  refine ⟨fun d hd e he => ?_, .inr fun d hd => ?_⟩
  · obtain ⟨x, _, rfl⟩ := List.mem_map.mp hd
    obtain ⟨y, _, rfl⟩ := List.mem_map.mp he
    rfl
  · obtain ⟨x, _, rfl⟩ := List.mem_map.mp hd
    exact ⟨(fun z => nomatch z), fun _ z => nomatch z⟩
/-- sorted(s) of a set of texts -/
theorem sorted_texts {Q : Value → Shared → Prop} (T : Tx P w s.heap a k) (hh : A.handled = none) (hz : k.length ≤ 1000) (hu : A.units + 64 < cLine)
    (go : ∀ s' p (out : List Value) (c : Nat) (bs : List Str), (∀ b o, s.heap.get? b = some o → s'.heap.get? b = some o) → s'.gens = s.gens → s'.os = s.os → s.heap.objs.size ≤ p → s'.heap.get? p = some (seqObj "list" out.toArray c) → k.Perm bs →
      PySem.W.EachIs IsTxt out (bs.mergeSort (PySem.W.dataLe false PyData.str)) → Q (.ref p) s') : wpAny (model P w) A (call (.builtin "sorted") [.ref a]) Q E s := by
  obtain ⟨es, ep, t, hat, hf, hs, hr, hl, tx, pm⟩ := T.rows
  apply Calls.call_function_entry kind_sorted plain_sorted entry_sorted (args_sorted1 _)
  unfold Builtin.«sorted»
  refine wpAny_bind (m := checkCount "sorted" 1 1 _) (wpAny_pure (wpAny_bind ?_))
  refine collect_set (A := A.in1) (by simp [hh]) hat hf (by rw [hs]; unfold scanBound; omega) hr hl fun s1 vs keep grow g1 o1 pv => ?_
  have txv : ∀ v, v ∈ vs → ∃ x, IsTxt v x := fun v m => tx v (pv.mem_iff.mp m)
  have ev := each_txt vs txv
  have len : vs.length = k.length := by rw [pv.length_eq, List.length_map, Array.length_toList, hs]
  apply wpAny_bind
  refine wpAny_newList ?_ (by rw [len, sizeLine_eq]; omega)
  have atL : (s1.heap.push (seqObj "list" vs.toArray 0)).get? s1.heap.objs.size = some (seqObj "list" vs.toArray 0) := Heap.get?_push_size _ rfl
  apply wpAny_bind
  apply wpAny_holding
  refine PySem.W.list_sort_data (s := { s1 with heap := s1.heap.push (seqObj "list" vs.toArray 0) }) (enc := PyData.str) atL ev (ev.mono fun v x ⟨u, e⟩ => ⟨[], by rw [e]; exact .str _ _, fun m => nomatch m⟩) (texts_alike _).1 (texts_alike _).2 (by rw [List.length_map, len, sizeLine_eq]; omega) (fun b _ => ?_) fun out ho eo => ?_
  · have d0 : (PyData.str b).depth = 0 := rfl
    have u1 : A.in1.units ≤ A.units + 1 := by simp [Around.in1]
    rw [d0]
    omega
  · obtain ⟨c, hc⟩ := sortedHeap_at (vs := vs) (out := out.toArray) atL
    refine wpAny_pure ⟨_, rfl, go _ s1.heap.objs.size out c (vs.map txt) (fun b o q => ?_) g1 o1 grow hc (pm.trans (pv.symm.map txt)) eo⟩
    have q1 := keep b o q
    have lt := Heap.lt_size q1
    show (sortedHeap (s1.heap.push (seqObj "list" vs.toArray 0)) s1.heap.objs.size vs out.toArray).get? b = some o
    rw [sortedHeap_old (Nat.ne_of_lt lt) (by rw [size_push']; exact Nat.lt_succ_of_lt lt)]
    exact Heap.get?_push_of_some _ q1
end
/-! ### the rules -/
def TxO (P : Program) (w : World) (a : Addr) (k : List Str) : HO := .ext fun h => Tx P w h a k
theorem tx_new {P : Program} {w : World} {H : Hp} {h : Heap} {a : Addr} {k : List Str} (T : Tx P w h a k) : ObjOk P w H h a (TxO P w a k) := by
  have ⟨_, ho, _⟩ := T
  exact ⟨T, ⟨_, ho⟩, fun _ _ q z => q.at z⟩
section
variable {X : Cx}
theorem vals_txt : ∀ {bs : List Str} {out : List Value}, PySem.W.EachIs IsTxt out bs → Vals (bs.map V.str) out
  | _, _, .nil => .nil
  | _, _, .cons ⟨t, e⟩ r => .cons ⟨t, e⟩ (vals_txt r)
def rSetTx (X : Cx) : List V → Hp → VK → Prop := fun xs H Q => ∃ (l : Addr) (ss : List Str), xs = [.ref l] ∧ SqL X.K H l (ss.map V.str) ∧ ss.length ≤ 1000 ∧ ∀ p k, H p = none → k.Nodup → (∀ x, x ∈ k ↔ x ∈ ss) → k.length ≤ ss.length → Q (.ref p) (upd H p (TxO X.prog X.w p k))
theorem cv_setTx (hc : X.calm = true) : CallR X (.type "set") (rSetTx X) := by
  rintro pins s σ H xs us Q I r ⟨l, ss, rfl, hl, hz, q⟩
  obtain rfl := Vals.ref1 r
  rcases I.list hl with ⟨its, rv, pl, _⟩
  have st := strsAre_of rv
  have len : ss.length = its.length := (StrsAre.len_eq st).symm
  refine set_texts (items := its.toArray) (xs := ss) (I.ok.hd hc) pl.isList (fun i v hv => ?_) (by rw [List.size_toArray, len]) (by unfold scanBound; omega) fun h' tk k keep T m z => ?_
  · rw [List.getElem?_toArray] at hv
    obtain ⟨t, e⟩ := SS.strs_at st i v hv
    have lt : i < ss.length := by rw [len]; exact (List.getElem?_eq_some_iff.mp hv).1
    exact ⟨ss.getD i Str.empty, t, by rw [List.getD_eq_getElem?_getD, List.getElem?_eq_getElem lt]; rfl, e⟩
  · have ⟨_, _, _, nd, _⟩ := T
    exact ⟨.ref s.heap.objs.size, _, I.laid (t' := tk) keep (Nat.le_refl _) (tx_new T), rfl, q _ k (I.hok.fresh (Nat.le_refl _)) nd m z⟩
def rSortTx (X : Cx) : List V → Hp → VK → Prop := fun xs H Q => ∃ (a : Addr) (k : List Str), xs = [.ref a] ∧ H a = some (TxO X.prog X.w a k) ∧ k.length ≤ 1000 ∧ ∀ p bs, H p = none → k.Perm bs → Q (.ref p) (upd H p (.lst ((bs.mergeSort (PySem.W.dataLe false PyData.str)).map V.str)))
theorem cv_sortTx (hc : X.calm = true) (hu : X.A.units + 64 < cLine) : CallR X (.builtin "sorted") (rSortTx X) := by
  rintro pins s σ H xs us Q I r ⟨a, k, rfl, ha, hz, q⟩
  obtain rfl := Vals.ref1 r
  have T : Tx X.prog X.w s.heap a k := (I.hok a _ ha).1
  refine sorted_texts T (I.ok.hd hc) hz hu fun s' p out c bs keep g o hp hg pm eo => ?_
  have free : H p = none := I.hok.fresh hp
  have lb : ((bs.mergeSort (PySem.W.dataLe false PyData.str)).map V.str).length ≤ sizeLine := by
    rw [List.length_map, (List.mergeSort_perm _ _).length_eq, ← pm.length_eq, sizeLine_eq]
    omega
  rcases s' with ⟨h', g', d', t', o'⟩
  obtain ⟨h, g0, d, t, o0⟩ := s
  cases o
  cases g
  have new : ObjOk X.prog X.w (upd H p (.lst ((bs.mergeSort (PySem.W.dataLe false PyData.str)).map V.str))) h' p (.lst ((bs.mergeSort (PySem.W.dataLe false PyData.str)).map V.str)) := ⟨lb, out, c, vals_txt eo, hg⟩
  exact ⟨.ref p, _, I.call (ch := []) (Un.laid keep hp free) (I.hok.laid keep hp new) I.bare (fun _ z => nomatch z), rfl, q p bs free pm⟩
end
section
variable {X : Cx} {H0 : Hp} {W : WX} {a : Expr} {ma : Sm} {pos p p2 pos2 : Pos}
/-- sorted(set(x)) -/
theorem sv_sset (hc : X.calm = true) (hu : X.A.units + 64 < cLine) (g1 : Gl X "sorted") (m1 : X.mg "sorted" = none) (g2 : Gl X "set") (m2 : X.mg "set" = none) (hp : plainE a = true) (ha : SV X H0 W a ma) :
    SV X H0 W (.Call (.Name "sorted" p) [.Call (.Name "set" p2) [a] [] pos2] [] pos) (MP.mk (v_op .sortedSet [ma])) := by
  refine SV.mk' (PE.weak (pe_callB (cv_sortTx hc hu) g1 m1 (by rfl) (pa_cons (pe_callTy (cv_setTx hc) g2 m2 (by rfl) (pa_cons ha.o pa_nil (star_plain hp)) (he := star_plain hp)) pa_nil)) fun σ H Q h => op1_weak (r := fun x H Q => rSetTx X [x] H fun y H2 => rSortTx X [y] H2 Q) (fun x H Q q => ?_) h) fun _ => rfl
  obtain ⟨S, dx, d, dom, gx, hpr, post⟩ := q
  cases dx <;> first | (cases hpr; done) | skip
  rename_i ds
  have hpr' : (match asStrs ds with | some ss => if ss.length ≤ 1000 then some (PyData.list (isort dle ((dedup ss).map .str))) else none | none => none) = some d := hpr
  split at hpr'
  · rename_i ss hss
    split at hpr'
    · rename_i hz
      cases hpr'
      obtain ⟨l, vs, rfl, hr, gl⟩ := gx.list
      obtain rfl := strs_v hss gl
      refine ⟨l, ss, rfl, hr.sq, hz, fun q k hq nd m z => ⟨q, k, rfl, upd_same, by omega, fun t bs ht pm => ?_⟩⟩
      have tq : t ≠ q := fun e => by rw [e, upd_same] at ht; cases ht
      have hn : H t = none := by rwa [upd_ne tq] at ht
      have sm : Same H (upd (upd H q (TxO X.prog X.w q k)) t (.lst ((bs.mergeSort (PySem.W.dataLe false PyData.str)).map V.str))) := fun b o e => same_upd ht b o (same_upd hq b o e)
      have ds : (bs.mergeSort (PySem.W.dataLe false PyData.str)).map PyData.str = isort dle ((dedup ss).map .str) := by
        rw [PySem.W.sort_maps (r := PySem.W.dataLe false PyData.str) (s := dle) PyData.str (fun _ _ _ _ => rfl)]
        exact sort_one (pm.nodup_iff.mp nd) fun x => by rw [← pm.mem_iff, m x]
      have gl2 : ∀ (T : List Addr) (Hx : Hp) (bs : List Str), GoodL X.K T Hx (bs.map .str) (bs.map V.str) := fun T Hx bs => by
        induction bs with
        | nil => exact .nil
        | cons b bs ih => exact .cons (by simp only [Good]) ih
      refine post _ _ sm ?_ fun _ => ⟨t, rfl, hn, Dom.new dom hn, ?_⟩
      · simp only [Good]
        exact ⟨t, _, rfl, .inl ⟨Dom.new dom hn, .inl upd_same⟩, by rw [← ds]; exact gl2 _ _ _⟩
      · exact ⟨_, upd_same, by rw [← ds]; exact gl2 _ _ _⟩
    · cases hpr'
  · cases hpr'
end
end MP
end
section
set_option Elab.async false
set_option linter.all false
set_option autoImplicit false
set_option maxRecDepth 100000
set_option maxHeartbeats 4000001
/-! A dict that is walked is frozen meanwhile (pe_lock, pi_keys of the library). -/
namespace MP
open PySem.Spec PyProof.Rows L2 PySem

/-- the same heap, but that the dict at d is frozen in one of the two -/
structure Fz (d : Addr) (ks : List (Key × V)) (H H' : Hp) : Prop where
  a : Rd H d (.dK ks)
  b : Rd H' d (.dK ks)
  eq : ∀ c, c ≠ d → H' c = H c
theorem rd_inj {H : Hp} {d : Addr} {ks : List (Key × V)} {u : HO} (h : Rd H d (.dK ks)) (r : Rd H d u) (n : ∀ o z, u ≠ .frz o z) : u = .dK ks := by
  rcases h with h | ⟨o, h⟩ <;> rcases r with r | ⟨p, r⟩ <;> rw [h] at r <;> cases r
  · rfl
  · exact absurd rfl (n _ _)
  · rfl
section
variable {K : PySem.W.Frag} {S : List Addr} {H H' : Hp} {d : Addr} {ks : List (Key × V)}
theorem Fz.rd (z : Fz d ks H H') {a : Addr} {u : HO} (r : Rd H a u) (n : ∀ o z, u ≠ .frz o z) : Rd H' a u := by
  by_cases e : a = d
  · subst e
    rw [rd_inj z.a r n]
    exact z.b
  · unfold Rd
    rw [z.eq a e]
    exact r
theorem Fz.some (z : Fz d ks H H') {a : Addr} {u : HO} (h : H a = some u) (n : ∀ o z, u ≠ .frz o z) (m : ∀ k, u ≠ .dK k) : H' a = some u := by
  have e : a ≠ d := fun e => by
    subst e
    exact m _ (rd_inj z.a (.inl h) n)
  rw [z.eq a e]
  exact h
mutual
theorem Good.fz (z : Fz d ks H H') : ∀ (x : PyData) (v : V), Good K S H x v → Good K S H' x v
  | .none, _, h => h
  | .bool _, _, h => h
  | .int _, _, h => h
  | .str _, _, h => h
  | .list xs, v, h => by
    simp only [Good] at h ⊢
    obtain ⟨a, vs, e, r, g⟩ := h
    exact ⟨a, vs, e, r.imp (fun q => ⟨q.1, z.rd q.2 fun _ _ y => nomatch y⟩) id, GoodL.fz z xs vs g⟩
  | .tuple xs, v, h => by
    simp only [Good] at h ⊢
    obtain ⟨a, vs, e, r, g⟩ := h
    exact ⟨a, vs, e, r.imp (fun q => z.rd q fun _ _ y => nomatch y) id, GoodL.fz z xs vs g⟩
  | .dict xs, v, h => by
    simp only [Good] at h ⊢
    obtain ⟨a, e, n, r⟩ := h
    exact ⟨a, e, n, r.imp (fun ⟨k, q, g⟩ => ⟨k, z.rd q (fun _ _ y => nomatch y), GoodK.fz z xs k g⟩) (GoodH.fz z xs a)⟩
theorem GoodL.fz (z : Fz d ks H H') : ∀ (x : List PyData) (v : List V), GoodL K S H x v → GoodL K S H' x v
  | [], v, h => by
    simp only [GoodL] at h ⊢
    exact h
  | x :: xs, v, h => by
    simp only [GoodL] at h ⊢
    obtain ⟨w, r, e, h1, h2⟩ := h
    exact ⟨w, r, e, Good.fz z x w h1, GoodL.fz z xs r h2⟩
theorem GoodK.fz (z : Fz d ks H H') : ∀ (x : List (PyData × PyData)) (k : List (Key × V)), GoodK K S H x k → GoodK K S H' x k
  | [], _, h => by
    simp only [GoodK] at h ⊢
    exact h
  | (k, x) :: xs, l, h => by
    simp only [GoodK] at h ⊢
    obtain ⟨q, v, r, e, ek, h1, h2⟩ := h
    exact ⟨q, v, r, e, ek, Good.fz z x v h1, GoodK.fz z xs r h2⟩
theorem GoodT.fz (z : Fz d ks H H') : ∀ (x : List (PyData × PyData)) (k : List (List Key × V)), GoodT K S H x k → GoodT K S H' x k
  | [], _, h => by
    simp only [GoodT] at h ⊢
    exact h
  | (k, x) :: xs, l, h => by
    simp only [GoodT] at h ⊢
    obtain ⟨q, v, r, e, ek, h1, h2⟩ := h
    exact ⟨q, v, r, e, ek, Good.fz z x v h1, GoodT.fz z xs r h2⟩
theorem GoodH.fz (z : Fz d ks H H') : ∀ (x : List (PyData × PyData)) (a : Addr), GoodH K S H x a → GoodH K S H' x a
  | [], _, h => by simp only [GoodH] at h
  | (k, x) :: xs, a, h => by
    simp only [GoodH] at h ⊢
    obtain ⟨e1, e2, l, hl, g⟩ := h
    exact ⟨e1, e2, l, z.some hl (fun _ _ y => nomatch y) (fun _ y => nomatch y), GoodT.fz z xs l g⟩
end
theorem Cont.fz (z : Fz d ks H H') {a : Addr} (n : a ≠ d) : ∀ {x : PyData}, Cont K S H a x → Cont K S H' a x
  | .list xs, ⟨vs, h, g⟩ => ⟨vs, by rw [z.eq a n]; exact h, GoodL.fz z xs vs g⟩
  | .dict xs, .inl ⟨k, h, g⟩ => .inl ⟨k, by rw [z.eq a n]; exact h, GoodK.fz z xs k g⟩
  | .dict xs, .inr h => .inr (GoodH.fz z xs a h)
variable {H0 : Hp} {σ σ' : L2.St} {S' : List Addr} {ρ ρ' : Rho} {W : WX}
theorem EnvOk.fz (E : EnvOk K H0 S σ H ρ) (z : Fz d ks H H') (n : d ∉ S) : EnvOk K H0 S σ H' ρ where
  len := E.len
  sh := fun i x h => let ⟨v, hv, g⟩ := E.sh i x h; ⟨v, hv, Good.fz z x v g⟩
  mu := fun i t x h => let ⟨a, ha, hS, hc, hf⟩ := E.mu i t x h; ⟨a, ha, hS, Cont.fz z (fun e => n (e ▸ hS)) hc, hf⟩
  apart := E.apart
  dom := fun a m => by
    rw [z.eq a fun e => n (e ▸ m)]
    exact E.dom a m
  ent := fun a m => by
    by_cases e : a = d
    · subst e
      rcases z.b with q | ⟨o, q⟩ <;> (rw [q]; exact fun y => nomatch y)
    · rw [z.eq a e]
      exact E.ent a m
theorem MA.in (E : EnvOk K H0 S σ H ρ) (n : d ∉ S) : ¬ MA σ ρ d := fun m => n (E.ma m).1
/-- behind the walk: free again -/
theorem Evo.fz {o : Obj} (E : EnvOk K H0 S σ H ρ) (hd : H d = some (.dK ks)) (n : d ∉ S) (v : Evo K H0 σ S (upd H d (.frz o (.dK ks))) ρ σ' S' H' ρ') :
    H' d = some (.frz o (.dK ks)) ∧ d ∉ S' ∧ Fz d ks H' (upd H' d (.dK ks)) ∧ Evo K H0 σ S H ρ σ' S' (upd H' d (.dK ks)) ρ' := by
  have hz : H' d = some (.frz o (.dK ks)) := v.keep d _ upd_same (MA.in E n)
  have nn : ∀ a, upd H d (.frz o (.dK ks)) a = Option.none → H a = Option.none := fun a h => by
    by_cases e : a = d
    · rw [e, upd_same] at h; cases h
    · rwa [upd_ne e] at h
  have n' : d ∉ S' := fun m => (v.sub d m).elim n fun q => by rw [upd_same] at q; cases q
  have z : Fz d ks H' (upd H' d (.dK ks)) := ⟨.inr ⟨o, hz⟩, .inl upd_same, fun c h => upd_ne h⟩
  refine ⟨hz, n', z, ⟨fun a x h m => ?_, fun a m => (v.sub a m).imp id (nn a), v.old, fun a m => (v.mono a m).imp id (nn a), fun a m => (v.ow a m).imp id (nn a), v.io, fun a h => ?_, v.lk, v.env.fz z n'⟩⟩
  · by_cases e : a = d
    · subst e
      rw [hd] at h
      rw [upd_same]
      exact h
    · rw [upd_ne e]
      exact v.keep a x (by rw [upd_ne e]; exact h) m
  · by_cases e : a = d
    · rw [e, upd_same]; exact fun y => nomatch y
    · rw [upd_ne e]
      exact v.there a (by rw [upd_ne e]; exact h)
theorem Aft.fz {o : Obj} {r : R (PyData × Bool)} {Q : VK} (E : EnvOk K H0 S σ H ρ) (hd : H d = some (.dK ks)) (n : d ∉ S) (nx : ∀ c ρ', r ≠ .ex c ρ') (q : Aft K H0 W σ S H ρ r (wV K H0 σ H Q)) :
    Aft K H0 W σ S (upd H d (.frz o (.dK ks))) ρ r (wV K H0 σ (upd H d (.frz o (.dK ks))) fun v H' => H' d = some (.frz o (.dK ks)) ∧ Q v (upd H' d (.dK ks))) := by
  cases r with
  | st => exact q
  | ex c ρ' => exact absurd rfl (nx c ρ')
  | ok x ρ' =>
    intro S' H' v w g f
    obtain ⟨hz, n', z, ev⟩ := Evo.fz E hd n v
    refine ⟨hz, q S' _ ev w (Good.fz z _ _ g) fun e => ?_⟩
    obtain ⟨⟨p, ep, h1, h2, h3⟩, h4⟩ := f e
    have pd : p ≠ d := fun e => by rw [e, upd_same] at h1; cases h1
    refine ⟨⟨p, ep, by rwa [upd_ne pd] at h1, h2, Cont.fz z pd h3⟩, fun p' e' => (h4 p' e').fz z fun m => ?_⟩
    rw [ep] at e'
    cases e'
    exact (List.mem_cons.mp m).elim (fun e => pd e.symm) n'
/-! ### the keys -/
theorem GoodK.get : ∀ {ds : List (PyData × PyData)} {l : List (Key × V)} {i : Nat} {x : PyData}, GoodK K S H ds l → (ds.map (·.1))[i]? = some x → ∃ q v, l[i]? = some (q, v) ∧ x = keyD q
  | [], _, _, _, _, h => absurd h (by simp)
  | (k, d) :: ds, l, 0, x, g, h => by
    simp only [GoodK] at g
    obtain ⟨q, v, r, e, ek, _, _⟩ := g
    rw [List.map_cons, List.getElem?_cons_zero] at h
    cases h
    exact ⟨q, v, by rw [e]; rfl, ek⟩
  | (k, d) :: ds, l, i + 1, x, g, h => by
    simp only [GoodK] at g
    obtain ⟨q, v, r, e, ek, _, g2⟩ := g
    rw [List.map_cons, List.getElem?_cons_succ] at h
    obtain ⟨q', v', h1, h2⟩ := GoodK.get g2 h
    exact ⟨q', v', by rw [e, List.getElem?_cons_succ]; exact h1, h2⟩
theorem good_key (q : Key) : Good K S H (keyD q) (kV q) := by
  cases q <;> simp only [keyD, kV, Good]
theorem walk_k {o : Obj} (ds : List (PyData × PyData)) : Walk K H0 (Itk d o ks) (ds.map (·.1)) (fun _ S H _ => d ∉ S ∧ H d = some (.frz o (.dK ks)) ∧ GoodK K S H ds ks) where
  go := fun ⟨_, h, g⟩ hi => ⟨h, by rw [g.length]; rwa [List.length_map] at hi⟩
  stop := fun ⟨_, h, g⟩ => ⟨h, by rw [g.length, List.length_map]; exact Nat.le_refl _⟩
  yld := fun E ⟨_, _, g⟩ hy hx => by
    obtain ⟨e, k, v, h1, h2⟩ := hy
    subst e h2
    obtain ⟨q, v', h3, h4⟩ := g.get hx
    rw [h1] at h3
    cases h3
    rw [h4]
    exact ⟨Same.refl _, good_key k⟩
  evo := fun {σ S H ρ σ' S' H' ρ'} E v ⟨n, h, g⟩ => ⟨(fun m => (v.sub d m).elim n fun q => by rw [h] at q; cases q), v.keep d _ h (MA.in E n), GoodK.chg (v.chg E) _ _ g⟩
end
end MP
end
section
set_option Elab.async false
set_option linter.all false
set_option autoImplicit false
set_option maxRecDepth 100000
set_option maxHeartbeats 4000001
namespace MP
open PySem.Spec PyProof.Rows L2 PySem

section
variable {X : Cx} {H0 : Hp} {W : WX} {elt tg iter : Expr} {ifs : List Expr} {mel mk mv : Sm} {cd ia : List Sm} {t : Tg} {ik : Ik} {scope : Scope} {own : List (Str × Nat)} {pos : Pos} {σ : L2.St} {H : Hp} {Q : VK}
abbrev varS (i : Nat) : Sm := ⟨MP.valV i, tst (opdV i), some i⟩
/-- the iterator of a frozen dict -/
theorem keys_read {i : Nat} {d : Addr} {o : Obj} {ks : List (Key × V)} {R : It → Hp → Prop} (hs : σ[i]? = some (some (.ref d))) (hz : H d = some (.frz o (.dK ks))) (h : tI X.K H0 W .keys [varS i] σ H R) : iKeys (tVar i) σ H R := by
  obtain ⟨S, ρ, E, h⟩ := h
  have h : Aft X.K H0 W σ S H ρ ((opdV i ρ).bind fun a ρ1 => .ok [a] ρ1) (wI X.K σ .keys R) := h
  unfold opdV at h
  cases hi : ρ[i]? with
  | none => rw [hi] at h; exact h.elim
  | some s =>
    rw [hi] at h
    cases s with
    | no => exact h.elim
    | mu t x =>
      obtain ⟨items, h1, _⟩ := h S H (Evo.refl E)
      cases h1
    | lk t x =>
      obtain ⟨items, h1, _⟩ := h S H (Evo.refl E)
      cases h1
    | sh x =>
      obtain ⟨items, h1, h2⟩ := h S H (Evo.refl E)
      cases x <;> first | (cases h1; done) | skip
      rename_i kvs
      have h1 : (if kvs.all (fun p => isKey p.1) = true then some (kvs.map (·.1)) else none) = some items := h1
      split at h1
      · rename_i hk
        cases h1
        obtain ⟨v, hv, g⟩ := E.sh i _ hi
        rw [hs] at hv
        cases hv
        simp only [Good] at g
        obtain ⟨a, e, n, g⟩ := g
        cases e
        rcases g with ⟨l, hl, g⟩ | g
        · have el := rd_inj (ks := ks) (.inr ⟨o, hz⟩) hl (fun _ _ y => nomatch y)
          cases el
          exact ⟨_, hs, d, o, rfl, .inl ⟨ks, hz, h2 (Itk d o ks) _ (fun _ => walk_k kvs) ⟨n, hz, g⟩⟩⟩
        · obtain ⟨r, l, er, hl, _⟩ := g.at
          rw [hz] at hl
          cases hl
      · cases h1
/-- a walk over a name's keys: the dict is there, and nobody's own -/
theorem keys_at {α : Type} {i : Nat} {S : List Addr} {ρ : Rho} {k : List PyData → Rho → R α} {P : List Addr → Hp → Rho → α → Prop} (E : EnvOk X.K H0 S σ H ρ) (h : Aft X.K H0 W σ S H ρ (walkC t .keys [varS i] k ρ) P) :
    (∃ d ks, σ[i]? = some (some (.ref d)) ∧ d ∉ S ∧ Rd H d (.dK ks)) ∧ ∀ c ρ', walkC t .keys [varS i] k ρ ≠ .ex c ρ' := by
  unfold walkC at h ⊢
  simp only [evK, evOs, Sm.o, varS] at h ⊢
  unfold opdV at h ⊢
  cases hi : ρ[i]? with
  | none => simp only [hi, R.bind] at h; exact h.elim
  | some s =>
    simp only [hi] at h ⊢
    cases s with
    | no => simp only [R.bind] at h; exact h.elim
    | mu t x => simp only [R.bind, itemsI, optB] at h; exact h.elim
    | lk t x => simp only [R.bind, itemsI, optB] at h; exact h.elim
    | sh x =>
      simp only [R.bind] at h ⊢
      cases x <;> first | (simp only [itemsI, optB] at h; exact h.elim) | skip
      rename_i kvs
      simp only [itemsI] at h ⊢
      by_cases hk : kvs.all (fun p => isKey p.1) = true
      · obtain ⟨v, hv, g⟩ := E.sh i _ hi
        simp only [Good] at g
        obtain ⟨a, e, n, g⟩ := g
        cases e
        rw [if_pos hk]
        refine ⟨?_, fun c ρ' q => ?_⟩
        · rcases g with ⟨l, hl, g⟩ | g
          · exact ⟨a, l, hv, n, hl⟩
          · obtain ⟨r, l, er, hl, _⟩ := g.at
            rw [er, List.all_cons, Bool.and_eq_true] at hk
            cases hk.1
        · simp only [optB] at q
          split at q
          · split at q
            · split at q
              · cases q
              · cases q
            · cases q
          · cases q
      · rw [if_neg hk] at h
        exact h.elim
/-- [.. for name in d ..] -/
theorem sv_cpK {i : Nat} (hc : X.calm = true) (hN : X.N.Nodup) (hi : PE X iter (tVar i)) (ok : BlkOk X.N X.env.scope scope own) (hv : own.map (·.2) = tgSlots t)
    (hg : BlkCx X scope fun X' => ∀ H0, PG X' tg (tB X'.K H0 (bindTg t) (tgSlots t))) (hcd : BlkCx X scope fun X' => ∀ H0, SVs X' H0 noW ifs cd) (hl : cd.length ≤ 1) (he : BlkCx X scope fun X' => ∀ H0, SV X' H0 noW elt mel)
    (hs : ∀ x, foldedSetIterable iter X.env x = pure x) : SV X H0 W (.ListComp elt [⟨tg, iter, ifs, 0⟩] scope pos) (MP.mk (v_cp mel t .keys [varS i] cd)) := by
  have base := pe_lc (pos := pos) (g := exG fun H0 => tB X.K H0 (bindTg t) (tgSlots t)) (tt := exE fun H0 => tT X.K H0 noW (evC cd)) (te := exE fun H0 => tV X.K H0 noW mel.v) hc hN (pi_keys hi) ok (fun s H C cl fp => PG.ex (hg s H C cl fp)) (fun s H C cl fp => PTs.ex fun H0 => pts_of (hcd s H C cl fp H0) hl) (fun s H C cl fp => PE.ex fun H0 => (he s H C cl fp H0).v) hs
  refine SV.mk' ⟨fun pins s σ H Q I h => ?_⟩ fun _ => rfl
  have h0 := h
  obtain ⟨S, ρ, E, h⟩ := h
  obtain ⟨⟨d, ks, hσ, n, hr⟩, nx⟩ := keys_at E h
  rcases hr with hd | ⟨o, hz⟩
  · refine (pe_lock base).run pins s σ H Q I ⟨d, _, hd, trivial, fun od => ?_⟩
    exact keys_read hσ upd_same (lc_read hv ⟨S, ρ, E.fz ⟨.inl hd, .inr ⟨od, upd_same⟩, fun c h => upd_ne h⟩ n, h.fz E hd n nx⟩)
  · exact base.run pins s σ H Q I (keys_read hσ hz (lc_read hv h0))
/-! ### {k: v for ..} -/
theorem dput_len (k v : PyData) (l : List (PyData × PyData)) : l.length ≤ (dput k v l).length := by
  unfold dput
  split
  · rw [List.length_map]
    exact Nat.le_refl _
  · rw [List.length_append]
    exact Nat.le_add_right _ _
theorem dictL_len {f : PyData → Rho → R (Option (PyData × PyData))} : ∀ {items : List PyData} {acc l : List (PyData × PyData)} {ρ ρ' : Rho}, dictL f items acc ρ = .ok l ρ' → acc.length ≤ l.length
  | [], acc, l, ρ, ρ', h => by
    simp only [dictL] at h
    cases h
    exact Nat.le_refl _
  | x :: r, acc, l, ρ, ρ', h => by
    simp only [dictL] at h
    split at h
    · split at h
      · exact Nat.le_trans (dput_len _ _ _) (dictL_len h)
      · cases h
    · exact dictL_len h
    · cases h
theorem dictL_cons {f : PyData → Rho → R (Option (PyData × PyData))} {x : PyData} {r : List PyData} {acc l : List (PyData × PyData)} {ρ ρ' : Rho} (h : dictL f (x :: r) acc ρ = .ok l ρ') :
    ∃ o ρ1, f x ρ = .ok o ρ1 ∧ ((∃ k v, o = some (k, v) ∧ isKey k = true ∧ dictL f r (dput k v acc) ρ1 = .ok l ρ') ∨ (o = none ∧ dictL f r acc ρ1 = .ok l ρ')) := by
  simp only [dictL] at h
  split at h
  · rename_i k v ρ1 e
    split at h
    · rename_i hk
      exact ⟨_, ρ1, e, .inl ⟨k, v, rfl, hk, h⟩⟩
    · cases h
  · rename_i ρ1 e
    exact ⟨_, ρ1, e, .inr ⟨rfl, h⟩⟩
  · cases h
theorem goodK_put {K : PySem.W.Frag} {S : List Addr} {H : Hp} {D : Addr} {o o0 : HO} (hS : D ∈ S) (h0 : H D = some o0) (m0 : MutO o0) {ds : List (PyData × PyData)} {l : List (Key × V)} (g : GoodK K S H ds l) : GoodK K S (upd H D o) ds l :=
  GoodK.chg (M := fun a => a = D) ⟨fun a x h n => by rw [upd_ne n]; exact h, fun a e => by subst e; exact ⟨hS, o0, h0, m0⟩, fun _ h => .inl h⟩ ds l g
def pairM (mk mv : Sm) : Rho → R (PyData × PyData) := fun ρ => (mk.v ρ).bind fun dk ρ => (mv.v ρ).bind fun dv ρ => .ok (dk.1, dv.1) ρ
theorem dc_read (hv : own.map (·.2) = tgSlots t) (h : tV X.K H0 W (v_dc mk mv t ik ia cd) σ H Q) :
    tDc (tI X.K H0 W ik ia) (exG fun H0 => tB X.K H0 (bindTg t) (tgSlots t)) (exE fun H0 => tT X.K H0 noW (evC cd)) (exE fun H0 => tV X.K H0 noW mk.v) (exE fun H0 => tV X.K H0 noW mv.v) (own.map (·.2)) σ H Q := by
  rw [hv]
  obtain ⟨S, ρ, E, h⟩ := h
  refine ⟨S, ρ, E, Aft.thn (Aft.bind h) fun S1 H1 ρ1 os ev q => ?_⟩
  obtain ⟨items, ρ2, r, ρ3, ρ4, hi, h2, hk, h4, q⟩ := walkC_at q
  refine ⟨items, hi, fun J ok hw ho D hD => ?_⟩
  cases hc : dictL (turnC t cd (pairM mk mv)) items [] ρ2 with
  | st =>
    have hc' : dictL (turnC t cd fun ρ => (mk.v ρ).bind fun dk ρ => (mv.v ρ).bind fun dv ρ => .ok (dk.1, dv.1) ρ) items [] ρ2 = .st := hc
    rw [hc'] at hk; cases hk
  | ex c z =>
    have hc' : dictL (turnC t cd fun ρ => (mk.v ρ).bind fun dk ρ => (mv.v ρ).bind fun dv ρ => .ok (dk.1, dv.1) ρ) items [] ρ2 = .ex c z := hc
    rw [hc'] at hk; cases hk
  | ok kvs ρe =>
    have hc' : dictL (turnC t cd fun ρ => (mk.v ρ).bind fun dk ρ => (mv.v ρ).bind fun dv ρ => .ok (dk.1, dv.1) ρ) items [] ρ2 = .ok kvs ρe := hc
    rw [hc'] at hk
    simp only [R.bind] at hk
    by_cases hb : kvs.length ≤ 1000
    · rw [if_pos hb] at hk
      cases hk
      have EL := (lock_evo ev.env os).env
      have line : (1000 : Nat) < sizeLine := by rw [sizeLine_eq]; omega
      refine ⟨fun i m Hc => m = items.length - i ∧ i ≤ items.length ∧ ∃ Sc ρc acc l, Blk X.K H0 σ S1 H1 (lockO ρ1 os) (tgSlots t) D Sc Hc ρc ∧ Hc D = some (.dK l) ∧ GoodK X.K Sc Hc acc l ∧ dictL (turnC t cd (pairM mk mv)) (items.drop i) acc ρc = .ok kvs ρ3,
        ⟨items.length, rfl, Nat.zero_le _, D :: S1, ρ2, [], [], Blk.start EL h2 hD, upd_same, by simp only [GoodK], by rw [List.drop_zero]; exact hc⟩, ?_⟩
      rintro i m Hc ⟨em, hle, Sc, ρc, acc, l, B, hacc, gd, hrun⟩
      have hok := (hw H0).evo EL B.ev ho
      by_cases hlt : i < items.length
      · have hget : items[i]? = some items[i] := List.getElem?_eq_getElem hlt
        rw [List.drop_eq_getElem_cons hlt] at hrun
        obtain ⟨o, ρn, hf, hnext⟩ := dictL_cons hrun
        obtain ⟨ρb, ρt, tt, hbind, htest, hcase⟩ := turnC_ok hf
        refine .inr ⟨(hw H0).go hok hlt, fun Hn => ∃ Sn ρn' acc' l', Blk X.K H0 σ S1 H1 (lockO ρ1 os) (tgSlots t) D Sn Hn ρn' ∧ Hn D = some (.dK l') ∧ GoodK X.K Sn Hn acc' l' ∧ dictL (turnC t cd (pairM mk mv)) (items.drop (i + 1)) acc' ρn' = .ok kvs ρ3, fun Hn hn => ⟨items.length - (i + 1), by omega, rfl, hlt, hn⟩, fun x H' hy => ?_⟩
        obtain ⟨sm, gx⟩ := (hw (upd H0 D (.lst []))).yld B.en hok hy hget
        have e0 : Evo X.K (upd H0 D (.lst [])) (wipe σ (tgSlots t)) Sc Hc ρc (wipe σ (tgSlots t)) Sc H' ρc := Evo.same B.en sm
        refine ⟨upd H0 D (.lst []), Sc, ρc, items[i], ρb, e0.env, gx, hbind, fun σ2 e1 k1 l1 => ?_⟩
        have hw2 : wipe σ2 (tgSlots t) = wipe σ (tgSlots t) := by
          refine wipe_ext (l1.trans (wipe_length _ _)) fun j hj => ?_
          rw [k1 j hj, wipe_out hj]
        refine ⟨hw2, upd H0 D (.lst []), Sc, ρb, e1.env, ?_⟩
        rw [htest]
        intro S3 H3 e2
        have e02 := (e0.trans e1).trans e2
        have fin : ∀ {S4 H4 ρ3'}, Evo X.K (upd H0 D (.lst [])) (wipe σ (tgSlots t)) Sc Hc ρc σ2 S4 H4 ρ3' → wipeR (tgSlots t) ρ3' = some ρn → Blk X.K H0 σ S1 H1 (lockO ρ1 os) (tgSlots t) D S4 H4 ρn ∧ H4 D = some (.dK l) ∧ GoodK X.K S4 H4 acc l := fun {S4 H4 ρ3'} e3 hwp => by
          have e4 := wipe_evo e3.env hwp
          rw [hw2] at e4
          have e5 := e3.trans e4
          obtain ⟨r1, r2⟩ := e5.res hacc B.na
          exact ⟨⟨B.ev.trans e5.unres, e5.env, e5.old D B.mem (by rw [upd_same]; exact fun z => nomatch z), r2⟩, r1, GoodK.chg (e5.chg B.en) _ _ gd⟩
        rcases hcase with ⟨et, dd, ρ3', hel, hwp, eo⟩ | ⟨et, hwp, eo⟩
        · subst et eo
          refine iteT ?_
          refine ⟨upd H0 D (.lst []), S3, ρt, e2.env, ?_⟩
          unfold pairM at hel
          cases hm : mk.v ρt with
          | st => rw [hm] at hel; cases hel
          | ex c z => rw [hm] at hel; cases hel
          | ok dk ρ5 =>
            rw [hm] at hel
            simp only [R.bind] at hel
            cases hm2 : mv.v ρ5 with
            | st => rw [hm2] at hel; cases hel
            | ex c z => rw [hm2] at hel; cases hel
            | ok dv ρ6 =>
              rw [hm2] at hel
              simp only [R.bind] at hel
              cases hel
              rcases hnext with ⟨k, v, eo, hkey, hr⟩ | ⟨eo, _⟩
              · cases eo
                intro S4 H4 e3 y gy _
                refine ⟨upd H0 D (.lst []), S4, ρ5, e3.env, ?_⟩
                rw [hm2]
                intro S5 H5 e4 z gz _
                obtain ⟨b1, b3, b4⟩ := fin ((e02.trans e3).trans e4) hwp
                obtain ⟨qk, ey, ek⟩ := isKey_key hkey (Good.b gy)
                have hlen := dictL_len hr
                have hl1 := dput_len dk.1 dv.1 acc
                refine ⟨l, qk, ey, b3, by rw [b4.length]; omega, S5, ρn, dput dk.1 dv.1 acc, putK l qk z, ⟨b1.ev.put hD b1.mem b3 trivial b1.na, b1.en.put b1.mem b3 trivial b1.na, b1.mem, b1.na⟩, upd_same, ?_, hr⟩
                rw [ek]
                exact goodK_put b1.mem b3 trivial (b4.put qk gz)
              · cases eo
        · subst et eo
          refine iteF ?_
          rcases hnext with ⟨k, v, eo, _⟩ | ⟨_, hr⟩
          · cases eo
          · obtain ⟨b1, b3, b4⟩ := fin e02 hwp
            exact ⟨S3, ρn, acc, l, b1, b3, b4, hr⟩
      · have ei : i = items.length := by omega
        subst ei
        rw [List.drop_length] at hrun
        simp only [dictL] at hrun
        cases hrun
        refine .inl ⟨(hw H0).stop hok, ?_⟩
        have e1 := B.ev.unwipe EL (fun i t d h => rfl)
        have na : ¬ OA σ _ D := fun h => B.na (OA.wipe B.en h)
        have e2 := unlock_evo ev.env (e1.drop EL hD na) h4
        have e3 := unlock_evo ev.env (e1.sameS fun a => mem_drop B.mem) h4
        have nm : D ∉ Sc.filter fun a => decide (a ≠ D) := fun h => by simpa using (List.mem_filter.mp h).2
        refine q _ Hc e2 (.ref D) ?_ fun _ => ⟨⟨D, rfl, ev.none hD, nm, .inl ⟨l, hacc, GoodK.chg (Chg.less fun a => (mem_drop B.mem).mp) _ _ gd⟩⟩, fun p ep => ?_⟩
        · simp only [Good]
          exact ⟨D, rfl, nm, .inl ⟨l, .inl hacc, GoodK.chg (Chg.less fun a h => (List.mem_filter.mp h).1) _ _ gd⟩⟩
        · cases ep
          exact e3.env
    · rw [if_neg hb] at hk
      cases hk
theorem sv_dc {kx vx : Expr} (hc : X.calm = true) (hN : X.N.Nodup) (hi : PI X tg iter (tI X.K H0 W ik ia)) (ok : BlkOk X.N X.env.scope scope own) (hv : own.map (·.2) = tgSlots t)
    (hg : BlkCx X scope fun X' => ∀ H0, PG X' tg (tB X'.K H0 (bindTg t) (tgSlots t))) (hcd : BlkCx X scope fun X' => ∀ H0, SVs X' H0 noW ifs cd) (hl : cd.length ≤ 1) (hk : BlkCx X scope fun X' => ∀ H0, SV X' H0 noW kx mk) (he : BlkCx X scope fun X' => ∀ H0, SV X' H0 noW vx mv)
    (hs : ∀ x, foldedSetIterable iter X.env x = pure x) : SV X H0 W (.DictComp kx vx [⟨tg, iter, ifs, 0⟩] scope pos) (MP.mk (v_dc mk mv t ik ia cd)) :=
  SV.mk' (PE.weak (pe_dc hc hN hi ok (fun s H C cl fp => PG.ex (hg s H C cl fp)) (fun s H C cl fp => PTs.ex fun H0 => pts_of (hcd s H C cl fp H0) hl) (fun s H C cl fp => PE.ex fun H0 => (hk s H C cl fp H0).v) (fun s H C cl fp => PE.ex fun H0 => (he s H C cl fp H0).v) hs) fun σ H Q h => dc_read hv h) fun _ => rfl
theorem sv_dcK {i : Nat} {kx vx : Expr} (hc : X.calm = true) (hN : X.N.Nodup) (hi : PE X iter (tVar i)) (ok : BlkOk X.N X.env.scope scope own) (hv : own.map (·.2) = tgSlots t)
    (hg : BlkCx X scope fun X' => ∀ H0, PG X' tg (tB X'.K H0 (bindTg t) (tgSlots t))) (hcd : BlkCx X scope fun X' => ∀ H0, SVs X' H0 noW ifs cd) (hl : cd.length ≤ 1) (hk : BlkCx X scope fun X' => ∀ H0, SV X' H0 noW kx mk) (he : BlkCx X scope fun X' => ∀ H0, SV X' H0 noW vx mv)
    (hs : ∀ x, foldedSetIterable iter X.env x = pure x) : SV X H0 W (.DictComp kx vx [⟨tg, iter, ifs, 0⟩] scope pos) (MP.mk (v_dc mk mv t .keys [varS i] cd)) := by
  have base := pe_dc (pos := pos) (g := exG fun H0 => tB X.K H0 (bindTg t) (tgSlots t)) (tt := exE fun H0 => tT X.K H0 noW (evC cd)) (tk := exE fun H0 => tV X.K H0 noW mk.v) (tv := exE fun H0 => tV X.K H0 noW mv.v) hc hN (pi_keys hi) ok (fun s H C cl fp => PG.ex (hg s H C cl fp)) (fun s H C cl fp => PTs.ex fun H0 => pts_of (hcd s H C cl fp H0) hl) (fun s H C cl fp => PE.ex fun H0 => (hk s H C cl fp H0).v) (fun s H C cl fp => PE.ex fun H0 => (he s H C cl fp H0).v) hs
  refine SV.mk' ⟨fun pins s σ H Q I h => ?_⟩ fun _ => rfl
  have h0 := h
  obtain ⟨S, ρ, E, h⟩ := h
  obtain ⟨⟨d, ks, hσ, n, hr⟩, nx⟩ := keys_at E h
  rcases hr with hd | ⟨o, hz⟩
  · refine (pe_lock base).run pins s σ H Q I ⟨d, _, hd, trivial, fun od => ?_⟩
    exact keys_read hσ upd_same (dc_read hv ⟨S, ρ, E.fz ⟨.inl hd, .inr ⟨od, upd_same⟩, fun c h => upd_ne h⟩ n, h.fz E hd n nx⟩)
  · exact base.run pins s σ H Q I (keys_read hσ hz (dc_read hv h0))
end
end MP
end
section
set_option Elab.async false
set_option linter.all false
set_option autoImplicit false
set_option maxRecDepth 100000
set_option maxHeartbeats 4000001
namespace MP
open PySem.Spec PyProof.Rows L2 PySem

section
variable {X : Cx} {H0 : Hp} {W : WX} {a b : Expr} {ma mb : Sm} {pos p apos : Pos}
/-! ### d == {} -/
def rEmp : R2 := fun x y H Q => ∃ c e ks, x = .ref c ∧ y = .ref e ∧ Rd H c (.dK ks) ∧ H e = some (.dK []) ∧ Q (.bl ks.isEmpty) H
theorem op_emp (hu : X.A.units < cLine) : OpR X (compareOp .Eq) rEmp := by
  rintro pins s σ H x y v u Q I rx ry ⟨c, e, ks, rfl, rfl, hc, he, q⟩
  cases rx
  cases ry
  obtain ⟨_, nc, vc, kc, dc⟩ := (show ObjOk X.prog X.w H s.heap c (.dK ks) from hc.ok I.hok)
  obtain ⟨_, ne, ve, ke, de⟩ := (show ObjOk X.prog X.w H s.heap e (.dK []) from I.hok e _ he)
  have l1 : ks.length = vc.length := Paired.length kc
  have l2 : 0 = ve.length := Paired.length ke
  refine PySem.W.keq_eq (knd := mixKind X.prog X.w) (r := true) nc ne dc de hu (fun l => ?_) (fin_bl I q ?_)
  · have : vc = [] := List.eq_nil_of_length_eq_zero (by omega)
    rw [this]
    exact .nil
  · rw [Bool.and_true, ← l1, ← l2]
    cases ks <;> rfl
theorem sv_emp (hu : X.A.units + 64 < cLine) (ha : SV X H0 W a ma) : SV X H0 W (.Compare a [.Eq] [.Dict [] [] p] pos) (MP.mk (v_op .emp [ma])) := by
  have key : ∀ σ H Q, tV X.K H0 W (v_op .emp [ma]) σ H Q → tOp rEmp (tO X.K H0 W ma.o) tDNewK σ H Q := fun σ H Q h => op1_weak (r := fun x H Q => tDNewK σ H fun y H2 => rEmp x y H2 Q) (fun x H Q q => by
    obtain ⟨S, dx, d, dom, gx, hp, post⟩ := q
    cases dx <;> first | (cases hp; done) | skip
    rename_i kvs
    have hp : (if kvs.all (fun p => isKey p.1) = true then some (PyData.bool kvs.isEmpty) else none) = some d := hp
    split at hp
    · rename_i hk
      cases hp
      obtain ⟨c, rfl, g⟩ := gx.dict
      intro e he
      have sm := same_upd (o := .dK []) he
      rcases g with ⟨ks, hr, g⟩ | ⟨r, ks, er, _⟩
      · refine ⟨c, e, ks, rfl, rfl, hr.imp (sm c _) fun ⟨o, q⟩ => ⟨o, sm c _ q⟩, upd_same, ?_⟩
        have em : ks.isEmpty = kvs.isEmpty := by
          have := g.length
          cases ks <;> cases kvs <;> first | rfl | cases this
        rw [em]
        exact post _ _ sm (by simp only [Good]) fun z => nomatch z
      · rw [er, List.all_cons, Bool.and_eq_true] at hk
        cases hk.1
    · cases hp) h
  have hv : PE X (.Compare a [.Eq] [.Dict [] [] p] pos) (tV X.K H0 W (v_op .emp [ma])) := PE.weak (pe_cmpR (op_emp (by omega)) ha.o pe_dnewK rfl) key
  refine ⟨hv, PT.weak (pt_cmpR (op_emp (by omega)) ha.o pe_dnewK rfl) fun σ H Q h => key σ H _ (t_of_tV (fun ρ d ρ' hh => ?_) h), sv_o hv⟩
  rw [v_op1] at hh
  simp only at hh
  cases hao : ma.o ρ with
  | st => rw [hao] at hh; cases hh
  | ex c ρ' => rw [hao] at hh; cases hh
  | ok oa ρ1 =>
    rw [hao] at hh
    simp only [R.bind] at hh
    cases hd : (rdOs ρ1 [oa]).bind (prim .emp) with
    | none => rw [hd] at hh; cases hh
    | some x =>
      rw [hd] at hh
      cases hh
      obtain ⟨dx, hx, hp⟩ := rd1 hd
      clear hx
      cases dx <;> first | (cases hp; done) | skip
      rename_i kvs
      have hp : (if kvs.all (fun p => isKey p.1) = true then some (PyData.bool kvs.isEmpty) else none) = some x := hp
      split at hp
      · cases hp
        exact ⟨_, rfl⟩
      · cases hp
/-! ### xs.index(x) -/
section
variable {K : PySem.W.Frag} {S : List Addr} {H : Hp}
theorem idx_list {x : PyData} {v : V} (fx : flat x = true) (gx : GoodB K S H x v) : ∀ {ds : List PyData} {vs : List V} {j : Nat}, ds.all flat = true → GoodL K S H ds vs → idxOf x ds = some j → ∃ z, vs[j]? = some z ∧ eqV z v = true ∧ ∀ (m : Nat) (z' : V), m < j → vs[m]? = some z' → eqV z' v = false
  | [], _, _, _, _, h => (by simp [idxOf] at h)
  | d :: ds, vs, j, fa, g, h => by
    simp only [GoodL] at g
    obtain ⟨u, r, rfl, g1, g2⟩ := g
    rw [List.all_cons, Bool.and_eq_true] at fa
    have e := flat_eqv fa.1 fx (Good.b g1) gx
    unfold idxOf at h
    split at h
    · rename_i he
      cases h
      exact ⟨u, rfl, by rw [e]; exact he, fun m z hm => absurd hm (Nat.not_lt_zero _)⟩
    · rename_i he
      rw [Option.map_eq_some_iff] at h
      obtain ⟨i, hi, rfl⟩ := h
      obtain ⟨z, h1, h2, h3⟩ := idx_list fx gx fa.2 g2 hi
      refine ⟨z, h1, h2, fun m z' hm hz => ?_⟩
      cases m with
      | zero =>
        cases hz
        rw [e]
        exact Bool.eq_false_iff.mpr he
      | succ m => exact h3 m z' (Nat.lt_of_succ_lt_succ hm) hz
theorem idx_txt {z : Str} : ∀ {ds : List PyData} {ss : List Str} {j : Nat}, asStrs ds = some ss → idxOf (.str z) ds = some j → ss[j]? = some z ∧ ∀ m, m < j → ss[m]? ≠ some z
  | [], _, _, _, h => (by simp [idxOf] at h)
  | d :: ds, ss, j, ha, h => by
    cases d <;> first | (cases ha; done) | skip
    rename_i x
    simp only [asStrs, Option.map_eq_some_iff] at ha
    obtain ⟨r, hr, rfl⟩ := ha
    unfold idxOf at h
    split at h
    · rename_i he
      cases h
      have e : x = z := by simpa [PyData.eqv] using he
      exact ⟨by rw [e]; rfl, fun m hm => absurd hm (Nat.not_lt_zero _)⟩
    · rename_i he
      rw [Option.map_eq_some_iff] at h
      obtain ⟨i, hi, rfl⟩ := h
      obtain ⟨h1, h2⟩ := idx_txt hr hi
      refine ⟨h1, fun m hm => ?_⟩
      cases m with
      | zero => exact fun q => he (by cases q; simp [PyData.eqv])
      | succ m => exact h2 m (Nat.lt_of_succ_lt_succ hm)
end
theorem v_ixE (tp : Bool) : v_ix tp ma mb = fun ρ => (ma.o ρ).bind fun oa ρ1 => optB (rdO ρ1 oa) fun da => if isSq tp da then (mb.o ρ1).bind fun ob ρ2 => optB ((rdOs ρ2 [oa, ob]).bind (prim (if tp then .indexT else .index))) fun d => .ok (d, false) ρ2 else .st := rfl
/-- xs.index(x) of a list -/
theorem sv_ixL (hb : attributeBase a "index" X.env (eval a X.env) = eval a X.env) (hl : (apos.endLine == pos.line) = true) (hp : plainE b = true) (ha : SV X H0 W a ma) (hbv : SV X H0 W b mb) : SV X H0 W (.Call (.Attribute a "index" apos) [b] [] pos) (MP.mk (v_ix false ma mb)) := by
  refine SV.mk' (PE.weak (pe_bm PySem.F.plainAttrs_list PySem.F.slot_list_index PySem.F.type_list_index mt_index ha.o (pa_cons hbv.o pa_nil (star_plain hp)) (hbase := hb) (hfew := by rw [star_plain hp]; rfl) (hline := hl) (hs := star_plain hp)) fun σ H Q h => ?_) fun _ => rfl
  rw [v_ixE] at h
  obtain ⟨S, ρ, E, h⟩ := h
  refine ⟨S, ρ, E, h.bind.thn fun S1 H1 ρ1 oa ev q x ok => ?_⟩
  obtain ⟨da, hda, q⟩ := q.opt
  cases da <;> first | exact q.elim | skip
  rename_i ds
  obtain ⟨c, vs, rfl, hr, _⟩ := (ok.rd ev.env hda).list
  refine ⟨.inl ⟨rfl, vs, hr.sq⟩, S1, ρ1, ev.env, ?_⟩
  have q : Aft X.K H0 W σ S1 H1 ρ1 ((mb.o ρ1).bind fun ob ρ2 => optB ((rdOs ρ2 [oa, ob]).bind (prim .index)) fun d => .ok (d, false) ρ2) (wV X.K H0 σ H Q) := q
  refine q.bind.thn fun S2 H2 ρ2 ob ev2 q y ok2 => ?_
  obtain ⟨d, hd, q⟩ := q.opt
  obtain ⟨dx, dy, hx, hy, hpr⟩ := rd2 hd
  have gx := (ok.evo ev.env ev2).rd ev2.env hx
  have gy := ok2.rd ev2.env hy
  clear hx
  cases dx <;> first | (cases hpr; done) | skip
  rename_i ys
  have hpr : (if (flat dy && ys.all flat) = true then (idxOf dy ys).map (fun j => PyData.int (j : Nat)) else none) = some d := hpr
  split at hpr
  · rename_i hf
    rw [Bool.and_eq_true] at hf
    rw [Option.map_eq_some_iff] at hpr
    obtain ⟨j, hj, rfl⟩ := hpr
    obtain ⟨c', us, e, hr2, g⟩ := gx.list
    cases e
    obtain ⟨z, h1, h2, h3⟩ := idx_list hf.1 gy hf.2 g hj
    exact ⟨c, us, y, j, z, rfl, rfl, hr2.sq, flat_v hf.1 gy, flats_v hf.2 g, h1, h2, h3, q.post (ev.trans ev2) _ _ (Same.refl _) (by simp only [Good]) fun z => nomatch z⟩
  · cases hpr
/-- .. of a tuple of texts that the module holds -/
theorem sv_ixT {v : V} {c : Addr} {o : Obj} {d : PyData} (hv : v = .ref c) (hk : X.K.lookup c = some o) (hn : o.dict = none) (hg : ∀ S H, Good X.K S H d v) (hpe : PE X a (tC v)) (hb : attributeBase a "index" X.env (eval a X.env) = eval a X.env) (hl : (apos.endLine == pos.line) = true) (hp : plainE b = true) (hbv : SV X H0 W b mb) :
    SV X H0 W (.Call (.Attribute a "index" apos) [b] [] pos) (MP.mk (v_ix true (MP.mk fun ρ => .ok (d, false) ρ) mb)) := by
  subst hv
  refine SV.mk' (PE.weak (pe_bm PySem.F.plainAttrs_tuple PySem.F.slot_tuple_index PySem.F.type_tuple_index mt_tup_index hpe (pa_cons hbv.o pa_nil (star_plain hp)) (hbase := hb) (hfew := by rw [star_plain hp]; rfl) (hline := hl) (hs := star_plain hp)) fun σ H Q h => ?_) fun _ => rfl
  rw [v_ixE] at h
  obtain ⟨S, ρ, E, h⟩ := h
  replace h : Aft X.K H0 W σ S H ρ (if isSq true d then (mb.o ρ).bind fun ob ρ2 => optB ((rdOs ρ2 [.val d, ob]).bind (prim .indexT)) fun d => .ok (d, false) ρ2 else .st) (wV X.K H0 σ H Q) := h
  cases d <;> first | exact h.elim | skip
  rename_i ys
  have g0 := hg [] (fun _ => none)
  simp only [Good] at g0
  obtain ⟨c0, vs, e0, ht, _⟩ := g0
  cases e0
  have cls : o.cls = .type "tuple" := by
    rcases ht with (ht | ⟨_, ht⟩) | ⟨o', _, _, hk', hc, _⟩
    · cases ht
    · cases ht
    · rw [hk] at hk'
      cases hk'
      exact hc
  refine ⟨.inr (.inl ⟨rfl, o, hk, cls, hn⟩), S, ρ, E, ?_⟩
  have q : Aft X.K H0 W σ S H ρ ((mb.o ρ).bind fun ob ρ2 => optB ((rdOs ρ2 [.val (.tuple ys), ob]).bind (prim .indexT)) fun d => .ok (d, false) ρ2) (wV X.K H0 σ H Q) := h
  refine q.bind.thn fun S2 H2 ρ2 ob ev2 q y ok2 => ?_
  obtain ⟨d, hd, q⟩ := q.opt
  obtain ⟨dx, dy, hx, hy, hpr⟩ := rd2 hd
  cases hx
  have gy := ok2.rd ev2.env hy
  clear hy
  cases dy <;> first | (cases hpr; done) | skip
  rename_i z
  have hpr : (if (asStrs ys).isSome = true then (idxOf (.str z) ys).map (fun j => PyData.int (j : Nat)) else none) = some d := hpr
  split at hpr
  · rename_i hf
    obtain ⟨ss, hss⟩ := Option.isSome_iff_exists.mp hf
    rw [Option.map_eq_some_iff] at hpr
    obtain ⟨j, hj, rfl⟩ := hpr
    have g := hg S2 H2
    simp only [Good] at g
    obtain ⟨c', us, e, ht2, g⟩ := g
    cases e
    obtain rfl := strs_v hss g
    obtain ⟨h1, h2⟩ := idx_txt hss hj
    exact ⟨c, ss, z, j, rfl, by rw [gy.str], ht2, h1, h2, q.post ev2 _ _ (Same.refl _) (by simp only [Good]) fun z => nomatch z⟩
  · cases hpr
end
end MP
end
section
set_option Elab.async false
set_option linter.all false
set_option autoImplicit false
set_option maxRecDepth 100000
set_option maxHeartbeats 4000001
/-! a caught refusal, asked which it is: the def _law_which -/
namespace MP
open L2 PySem PySem.Spec PyProof.Rows

/-! ### a list of truth values: how many are True, where the first is -/
theorem bools_of : ∀ {bs : List Bool} {us : List Value}, Vals (bs.map V.bl) us → us = bs.map Value.bool
  | [], _, .nil => rfl
  | b :: r, _, .cons h q => by
    rw [bools_of (bs := r) q]
    cases h
    rfl
def isTru : Value → Bool
  | .bool b => b == true
  | _ => false
theorem tru_count : ∀ bs : List Bool, (bs.map Value.bool).countP isTru = bs.count true
  | [] => rfl
  | b :: r => by
    rw [List.map_cons, List.countP_cons, List.count_cons, tru_count r]
    cases b <;> rfl
section
variable {X : Cx}
theorem mt_countT : MtR X "list.count" (fun x xs H Q => ∃ (p : Addr) (bs : List Bool), x = .ref p ∧ xs = [.bl true] ∧ SqL X.K H p (bs.map V.bl) ∧ Q (.int (bs.count true : Nat)) H) := by
  rintro pins sh σ H x xs v us Q I rx rxs ⟨p, bs, rfl, rfl, sq, k⟩
  cases rx
  rcases rxs.one with ⟨u, rfl, ru⟩
  cases ru
  obtain ⟨its, rv, ⟨⟨cl, dd, dat, sl⟩, n, at_, ec, _, ed⟩, _⟩ := I.list sq
  dsimp only at ec ed
  subst ec ed
  have e := bools_of rv
  have each : ∀ y ∈ its.toArray, SeqAt.EqAt X.A.in1 sh y (.bool true) (isTru y) := fun y m => by
    have m' : y ∈ its := by simpa using m
    rw [e] at m'
    obtain ⟨b, _, rfl⟩ := List.mem_map.mp m'
    exact SeqAt.EqAt.bool_bool b true
  refine call_meets PySem.F.slot_list_count ⟨_, at_, rfl⟩ PySem.F.entry_list_count (PySem.F.args_list_count_2 _ _) (SeqAt.list_countAt p its.toArray n dd sl (.bool true) isTru) ⟨at_, each, ?_⟩
  refine ⟨.int (bs.count true : Nat), H, I.tok _, ⟨sh.toks, ?_⟩, k⟩
  have c : its.toArray.toList.countP isTru = bs.count true := by
    rw [← tru_count, ← e]
  rw [← c]
/-! ### isinstance of the exception that is pinned at a -/
variable {a D : Addr} {oe : Obj}
theorem cv_isX (C : ExcC X.K D) (z : Zc (.ref D) none oe) (f : ∃ vs, oe.data = .fields vs) (pin : (a, oe) ∈ X.pn) : CallR X (.builtin "isinstance") (rIsE X.K D a) := by
  rintro pins sh σ H xs us Q I r ⟨c, cv, b, rfl, one, kit, k⟩
  rcases r.two with ⟨u1, u2, rfl, r1, r2⟩
  cases r1
  rw [one _ r2]
  obtain ⟨vs, hv⟩ := f
  have get : sh.heap.get? a = some oe := (I.pin (a, oe) (List.mem_append_left _ pin)).1
  have inst : PySem.W.InstAt sh.heap a oe D none := by
    cases oe with
    | mk oc od dat sl =>
      obtain ⟨h1, h2⟩ := z
      dsimp only at h1 h2 hv
      subst h1 h2 hv
      exact ⟨get, rfl, rfl, trivial⟩
  exact PySem.W.kia_one (PySem.W.handS_kitx_exc C.hg C.hk C.hs C.hd C.ha C.hn C.ht C.hm) I.kIn inst kit (fun z => nomatch z) fun tk => ⟨.bl b, H, I.kept (t' := tk) fun _ _ z => z, rfl, k⟩
/-- the slot i still holds it -/
def tIs (i : Nat) (a : Addr) (b : Bool) : TE := fun σ H Q => σ[i]? = some (some (.ref a)) ∧ Q (.bl b) H
theorem pe_isX {i : Nat} {x y : Str} {c : V} {cv : Value} {b : Bool} {p1 p2 p3 p4 : Pos} (C : ExcC X.K D) (z : Zc (.ref D) none oe) (f : ∃ vs, oe.data = .fields vs) (pin : (a, oe) ∈ X.pn) (gi : Gl X "isinstance") (mi : X.mg "isinstance" = none) (hx : PE X (.Name x p2) (tVar i)) (hy : PE X (.Name y p3) (tC c))
    (one : ∀ u, RelV c u → u = cv) (kit : PySem.W.kitOne X.K (.ref D) cv = some b) : PE X (.Call (.Name "isinstance" p1) [.Name x p2, .Name y p3] [] p4) (tIs i a b) :=
  PE.weak (pe_callB (cv_isX C z f pin) gi mi (by decide +kernel) (pa_cons hx (pa_cons hy pa_nil))) fun σ H Q h => ⟨.ref a, h.1, c, cv, b, rfl, one, kit, h.2⟩
/-- a row of such tests -/
def tIss (i : Nat) (a : Addr) (bs : List Bool) : TA := fun σ H Q => σ[i]? = some (some (.ref a)) ∧ Q (bs.map V.bl) H
inductive IsEs (X : Cx) (i : Nat) (a : Addr) : List Expr → List Bool → Prop
  | nil : IsEs X i a [] []
  | cons {e : Expr} {es : List Expr} {b : Bool} {bs : List Bool} : PE X e (tIs i a b) → plainE e = true → IsEs X i a es bs → IsEs X i a (e :: es) (b :: bs)
theorem IsEs.pa {i : Nat} {es : List Expr} {bs : List Bool} (h : IsEs X i a es bs) : PA X es (tIss i a bs) := by
  induction h with
  | nil => exact PA.weak pa_nil fun σ H Q h => h.2
  | cons h1 hp h2 ih => exact PA.weak (pa_cons h1 ih (star_plain hp)) fun σ H Q h => ⟨h.1, h.1, h.2⟩
/-- the list that is grown stands at l -/
def tNew (i j : Nat) (a : Addr) (bs : List Bool) : TS := fun D σ H => σ[i]? = some (some (.ref a)) ∧ ∀ p, H p = none → D.nx (σ.set j (some (.ref p))) (upd H p (.lst (bs.map V.bl)))
theorem ps_new {i j : Nat} {es : List Expr} {bs : List Bool} {o : Str} {p1 p2 p3 : Pos} (nd : X.N.Nodup) (hj : X.N[j]? = some o) (lo : X.env.scope.names.lookup o = some .local) (h : IsEs X i a es bs) (hl : bs.length ≤ 1000) : PS X (.Assign [.Name o p1] (.List es p2) p3) (tNew i j a bs) :=
  PS.weak (ps_set nd hj (.inl lo) (pe_lst h.pa) rfl (.inr lo)) fun D σ H h => ⟨h.1, by rw [List.length_map]; exact Nat.le_trans hl (by decide), fun p hp => h.2 p hp⟩
def tGrow (i j : Nat) (a : Addr) (cs : List Bool) : TS := fun D σ H => σ[i]? = some (some (.ref a)) ∧ ∃ (l : Addr) (bs : List Bool), σ[j]? = some (some (.ref l)) ∧ H l = some (.lst (bs.map V.bl)) ∧ bs.length + cs.length ≤ 1000 ∧ ∀ p H', H p = none → H' = upd (upd H p (.lst (cs.map V.bl))) l (.lst ((bs ++ cs).map V.bl)) → D.nx σ H'
theorem ps_grow {i j : Nat} {es : List Expr} {cs : List Bool} {o : Str} {p0 p1 p2 p3 p4 : Pos} (hv : PE X (.Name o p0) (tVar j)) (h : IsEs X i a es cs) (line : (p1.endLine == p3.line) = true) (hl : cs.length ≤ 1000) :
    PS X (.Expr (.Call (.Attribute (.Name o p0) "extend" p1) [.List es p2] [] p3) p4) (tGrow i j a cs) := by
  refine PS.weak (ps_expr (pe_bm PySem.F.plainAttrs_list PySem.F.slot_list_extend PySem.F.type_list_extend mt_extendR hv (pa_cons (pe_lst h.pa) pa_nil) rfl rfl line) rfl) fun D σ H ⟨h1, l, bs, hl1, hH, room, k⟩ => ?_
  refine ⟨.ref l, hl1, .inl ⟨rfl, bs.map V.bl, .inl (.inl hH)⟩, h1, by rw [List.length_map]; exact Nat.le_trans hl (by decide), fun p hp => ?_⟩
  have ne : l ≠ p := fun e => by rw [e, hp] at hH; cases hH
  refine ⟨l, p, bs.map V.bl, cs.map V.bl, rfl, rfl, (upd_ne ne).trans hH, .inl (.inl upd_same), by rw [List.length_map, List.length_map]; exact Nat.le_trans room (by decide), ?_⟩
  rw [← List.map_append]
  exact k p _ hp rfl
/-- nothing is odd: one is True, and it is a ValueError -/
def tCalm (i j : Nat) (a : Addr) : TS := fun D σ H => σ[i]? = some (some (.ref a)) ∧ ∃ (l : Addr) (bs : List Bool), σ[j]? = some (some (.ref l)) ∧ H l = some (.lst (bs.map V.bl)) ∧ bs.count true = 1 ∧ D.nx σ H
theorem pss_any {b : List Stmt} : PSs X b (fun _ _ _ => False) := ⟨fun _ _ _ _ _ _ h => h.elim⟩
theorem ps_calm {i j : Nat} {o : Str} {v : Expr} {b : List Stmt} {k1 k2 : Nat} {p0 p1 p2 p3 p4 p5 p6 p7 pc : Pos} (hv : PE X (.Name o p0) (tVar j)) (h : PE X v (tIs i a true)) (ht : ∀ whole, isTrue v X.env whole = (do let v' ← whole; standAt v.pos; holding [v'] (truthy v'))) (line : (p1.endLine == p2.line) = true) :
    PS X (.If (.BoolOp .Or [.Compare (.Call (.Attribute (.Name o p0) "count" p1) [.Constant (.bool true) k1 pc] [] p2) [.NotEq] [.Constant (.int 1) k2 p3] p4, .UnaryOp .Not v p5] p6) b [] p7) (tCalm i j a) := by
  have cnt := pe_bm (X := X) PySem.F.plainAttrs_list PySem.F.slot_list_count PySem.F.type_list_count mt_countT hv (pa_cons (show PE X (.Constant (.bool true) k1 pc) (tC (.bl true)) from pe_bl) pa_nil) rfl rfl line
  refine PS.weak (ps_if (PW.pt (pw_or (pt_cmpR op_ne cnt pe_int rfl) (pw_or1 (pt_not (pt_truth h ht))))) pss_any pss_nil) fun D σ H ⟨h1, l, bs, hl, hH, one, nx⟩ => ?_
  refine ⟨.ref l, hl, .inl ⟨rfl, bs.map V.bl, .inl (.inl hH)⟩, l, bs, rfl, rfl, .inl (.inl hH), rfl, false, ?_, ?_⟩
  · rw [one]
    rfl
  · exact ⟨h1, true, rfl, nx⟩
/-- ("refused", its number) -/
def tNum (j : Nat) (w : Str) : TS := fun D σ H => ∃ (l : Addr) (bs : List Bool) (n : Nat), σ[j]? = some (some (.ref l)) ∧ H l = some (.lst (bs.map V.bl)) ∧ bs[n]? = some true ∧ (∀ m : Nat, m < n → bs[m]? = some false) ∧ ∀ p, H p = none → D.rt (.ref p) (upd H p (.tup [.str w, .int (n : Nat)]))
theorem all_flat : ∀ bs : List Bool, (bs.map V.bl).all flatV = true
  | [] => rfl
  | b :: r => by rw [List.map_cons, List.all_cons, all_flat r]; rfl
theorem ps_num {j : Nat} {o w : Str} {k0 k1 k2 : Nat} {p0 p1 p2 p3 p4 p5 p6 : Pos} (hv : PE X (.Name o p0) (tVar j)) (line : (p1.endLine == p2.line) = true) :
    PS X (.Return (some (.Tuple [.Constant (.str w) k0 p3, .Call (.Attribute (.Name o p0) "index" p1) [.Constant (.bool true) k1 p4] [] p2] k2 p5)) p6) (tNum j w) := by
  have ix := pe_bm (X := X) PySem.F.plainAttrs_list PySem.F.slot_list_index PySem.F.type_list_index mt_index hv (pa_cons (show PE X (.Constant (.bool true) k1 p4) (tC (.bl true)) from pe_bl) pa_nil) rfl rfl line
  refine PS.weak (ps_ret (pe_tup (pa_cons pe_str (pa_cons ix pa_nil)))) fun D σ H ⟨l, bs, n, hl, hH, at_, first, k⟩ => ?_
  refine ⟨.ref l, hl, .inl ⟨rfl, bs.map V.bl, .inl (.inl hH)⟩, l, bs.map V.bl, .bl true, n, .bl true, rfl, rfl, .inl (.inl hH), rfl, all_flat bs, by rw [List.getElem?_map, at_]; rfl, rfl, fun m z hm hz => ?_, (show 2 ≤ sizeLine from by decide), fun p hp => k p hp⟩
  rw [List.getElem?_map, first m hm] at hz
  cases hz
  rfl
/-! ### the whole text -/
def lineOk (p q : Pos) : Bool := p.endLine == q.line
/-- its four rows of tests, and the test for ValueError -/
def whB (o : Str) : List Stmt → Option (List (List Expr) × Expr)
  | [.Assign [.Name o1 _] (.List e1 _) _, .Expr (.Call (.Attribute (.Name o2 _) a2 q2) [.List e2 _] [] c2) _, .Expr (.Call (.Attribute (.Name o3 _) a3 q3) [.List e3 _] [] c3) _, .Expr (.Call (.Attribute (.Name o4 _) a4 q4) [.List e4 _] [] c4) _,
      .If (.BoolOp .Or [.Compare (.Call (.Attribute (.Name o5 _) a5 q5) [.Constant (.bool true) _ _] [] c5) [.NotEq] [.Constant (.int 1) _ _] _, .UnaryOp .Not v _] _) _ [] _,
      .Return (some (.Tuple [.Constant (.str w) _ _, .Call (.Attribute (.Name o6 _) a6 q6) [.Constant (.bool true) _ _] [] c6] _ _)) _] =>
    if (decide (o1 = o ∧ o2 = o ∧ o3 = o ∧ o4 = o ∧ o5 = o ∧ o6 = o) && decide (a2 = "extend" ∧ a3 = "extend" ∧ a4 = "extend" ∧ a5 = "count" ∧ a6 = "index" ∧ w = "refused")) && (lineOk q2 c2 && (lineOk q3 c3 && (lineOk q4 c4 && (lineOk q5 c5 && lineOk q6 c6)))) then some ([e1, e2, e3, e4], v) else none
  | _ => none
/-- the list l has grown to bs, and nothing else has changed -/
structure Grown (H0 : Hp) (l : Addr) (bs : List Bool) (H : Hp) : Prop where
  new : H0 l = none
  at_ : H l = some (.lst (bs.map V.bl))
  old : ∀ b o, H0 b = some o → H b = some o
theorem Grown.more {H0 H : Hp} {l p : Addr} {bs cs : List Bool} (g : Grown H0 l bs H) (hp : H p = none) : Grown H0 l (bs ++ cs) (upd (upd H p (.lst (cs.map V.bl))) l (.lst ((bs ++ cs).map V.bl))) := by
  refine ⟨g.new, upd_same, fun b o h => ?_⟩
  have nb : b ≠ l := fun e => by rw [e, g.new] at h; cases h
  have nq : b ≠ p := fun e => by rw [← e, g.old b o h] at hp; cases hp
  rw [upd_ne nb, upd_ne nq]
  exact g.old b o h
theorem whB_ok {i : Nat} {o : Str} {body : List Stmt} {gs : List (List Expr)} {v : Expr} {b1 b2 b3 b4 : List Bool} {n : Nat} (h : whB o body = some (gs, v)) (nd : X.N.Nodup) (hi : i = 0) (hj : X.N[1]? = some o) (lo : X.env.scope.names.lookup o = some .local) (hv : ∀ p, PE X (.Name o p) (tVar 1))
    (tests : ∃ e1 e2 e3 e4, gs = [e1, e2, e3, e4] ∧ IsEs X 0 a e1 b1 ∧ IsEs X 0 a e2 b2 ∧ IsEs X 0 a e3 b3 ∧ IsEs X 0 a e4 b4) (val : PE X v (tIs 0 a true)) (ht : ∀ whole, isTrue v X.env whole = (do let v' ← whole; standAt v.pos; holding [v'] (truthy v')))
    (len : b1.length + b2.length + b3.length + b4.length ≤ 1000) (one : (b1 ++ b2 ++ b3 ++ b4).count true = 1) (at_ : (b1 ++ b2 ++ b3 ++ b4)[n]? = some true) (first : ∀ m : Nat, m < n → (b1 ++ b2 ++ b3 ++ b4)[m]? = some false) :
    PSs X body (fun D σ H => σ = [some (.ref a), none] ∧ ∀ p H', Same H H' → H p = none → H' p = some (.tup [.str "refused", .int (n : Nat)]) → D.rt (.ref p) H') := by
  unfold whB at h
  split at h
  · split at h
    · rename_i ck
      simp only [Bool.and_eq_true, decide_eq_true_eq] at ck
      obtain ⟨⟨⟨rfl, rfl, rfl, rfl, rfl, rfl⟩, rfl, rfl, rfl, rfl, rfl, rfl⟩, k2, k3, k4, k5, k6⟩ := ck
      obtain ⟨e1, e2, e3, e4, eg, t1, t2, t3, t4⟩ := tests
      cases h
      cases eg
      refine PSs.weak (pss_cons (ps_new (i := 0) nd hj lo t1 (by omega)) (pss_cons (ps_grow (i := 0) (hv _) t2 k2 (by omega)) (pss_cons (ps_grow (i := 0) (hv _) t3 k3 (by omega)) (pss_cons (ps_grow (i := 0) (hv _) t4 k4 (by omega)) (pss_cons (ps_calm (i := 0) (hv _) val ht k5) (pss_cons (ps_num (hv _) k6) pss_nil)))))) fun D σ H ⟨es, k⟩ => ?_
      subst es
      refine ⟨rfl, fun l hl => ⟨rfl, l, b1, rfl, upd_same, by omega, fun p2 H2 n2 eH2 => ?_⟩⟩
      have g1 : Grown H l b1 (upd H l (.lst (b1.map V.bl))) := ⟨hl, upd_same, fun b x hb => by rw [upd_ne (fun e => by rw [e, hl] at hb; cases hb)]; exact hb⟩
      have g2 := g1.more (cs := b2) n2
      rw [← eH2] at g2
      refine ⟨rfl, l, b1 ++ b2, rfl, g2.at_, by rw [List.length_append]; omega, fun p3 H3 n3 eH3 => ?_⟩
      have g3 := g2.more (cs := b3) n3
      rw [← eH3] at g3
      refine ⟨rfl, l, b1 ++ b2 ++ b3, rfl, g3.at_, by rw [List.length_append, List.length_append]; omega, fun p4 H4 n4 eH4 => ?_⟩
      have g4 := g3.more (cs := b4) n4
      rw [← eH4] at g4
      refine ⟨rfl, l, b1 ++ b2 ++ b3 ++ b4, rfl, g4.at_, one, l, b1 ++ b2 ++ b3 ++ b4, n, rfl, g4.at_, at_, first, fun p hp => ?_⟩
      have h0 : H p = none := by
        cases q : H p with
        | none => rfl
        | some x => rw [g4.old p x q] at hp; cases hp
      refine k p _ (fun b x hb => ?_) h0 upd_same
      rw [upd_ne (fun e => by rw [e, h0] at hb; cases hb)]
      exact g4.old b x hb
    · cases h
  · cases h
end
end MP
end
section
set_option Elab.async false
set_option linter.all false
set_option autoImplicit false
set_option maxRecDepth 100000
set_option maxHeartbeats 4000001
namespace MP
open L2 PySem PySem.Spec PyProof.Rows

def excCB (K : PySem.W.Frag) (D : Addr) : Bool :=
  (He.eqO (PySem.W.findIn K (.ref D) "__getattribute__") (some (some (.builtin "BaseException.__getattribute__"))) && He.eqO (PySem.W.findIn K (.ref D) "__getattr__") (some none)) &&
  ((decide (PySem.W.subIn K (.ref D) (.type "BaseException") = some true) && PySem.W.hasDictIn K D) &&
  ((He.eqO (PySem.W.findIn K (.ref D) "__class__") (some (some (.builtin "object.__class__"))) && He.eqO (PySem.W.specialIn K (.builtin "object.__class__") "__get__") (some (some (.builtin "getset_descriptor.__get__")))) &&
  (decide (PySem.W.takesIn K (.builtin "object.__class__") = some true) && decide (PySem.W.mroIn K D (.type "object") = some true))))
theorem excCB_ok {K : PySem.W.Frag} {D : Addr} (h : excCB K D = true) : ExcC K D := by
  unfold excCB at h
  simp only [decide_eq_true_eq, Bool.and_eq_true] at h
  obtain ⟨⟨h1, h2⟩, ⟨h3, h4⟩, ⟨h5, h6⟩, h7, h8⟩ := h
  exact ⟨He.eqO_ok h1, He.eqO_ok h2, h3, h4, He.eqO_ok h5, He.eqO_ok h6, h7, h8⟩
/-- what the classes of the refusals say -/
def whCk (K : PySem.W.Frag) : Bool := (exNames.all fun c => ((He.Fa.glo c).ok K && excCB K (He.ga K c)) && ((decide (PySem.W.kitOne K (.ref (He.ga K c)) (.type "ValueError") = some true) && decide (PySem.W.exmOne K (.ref (He.ga K c)) (.ref (He.ga K "SiteError")) = some true)) &&
  exNames.all fun d => decide (PySem.W.kitOne K (.ref (He.ga K c)) (.ref (He.ga K d)) = some (decide (c = d))))) && ((He.Fa.glo "SiteError").ok K && ((He.Fa.free "isinstance").ok K && (He.Fa.free "ValueError").ok K))
theorem whCk_ok {K : PySem.W.Frag} {h : Heap} {mg : Str → Option Value} (X : K.In h) (G : h.Ns mainGlobals mg) (c : whCk K = true) : WhK K mg := by
  unfold whCk at c
  simp only [Bool.and_eq_true, decide_eq_true_eq, List.all_eq_true] at c
  obtain ⟨c1, c2, c3, c4⟩ := c
  exact ⟨fun c m => He.glo_ok X G (c1 c m).1.1, fun c m => excCB_ok (c1 c m).1.2, fun c m => (c1 c m).2.1.1, fun c m => (c1 c m).2.1.2, fun c m => (c1 c m).2.2, He.glo_ok X G c2, He.free_ok X G c3, He.free_ok X G c4⟩
/-- isinstance(x, name): the name -/
def isEx (x : Str) : Expr → Option Str
  | .Call (.Name f _) [.Name y _, .Name c _] [] _ => if decide (f = "isinstance" ∧ y = x) = true then some c else none
  | _ => none
def isExs (x : Str) : List Expr → Option (List Str)
  | [] => some []
  | e :: r => match isEx x e, isExs x r with
    | some c, some cs => some (c :: cs)
    | _, _ => none
/-- the text of _law_which, its scope -/
def chWh (x o : Str) (scope : Scope) (body : List Stmt) : Bool :=
  (decide (scope.kind = .function) && (decide (scope.isCoroutine = false) && decide (scope.isGenerator = false))) && ((decide ([x, o] : List Str).Nodup && decide (scope.names.lookup x = some .local ∧ scope.names.lookup o = some .local)) &&
  ((scope.names.all fun y => decide (y.2 ≠ .free)) && ((decide (scope.names.lookup ("isinstance" : Str) = some .globalImplicit ∧ scope.names.lookup ("ValueError" : Str) = some .globalImplicit) && exNames.all fun c => decide (scope.names.lookup c = some .globalImplicit)) &&
  ((decide ((x == ("__debug__" : Str)) = false ∧ (x == ("__classdict__" : Str)) = false ∧ (o == ("__debug__" : Str)) = false ∧ (o == ("__classdict__" : Str)) = false)) &&
  (match whB o body with
  | some ([e1, e2, e3, e4], v) => decide (isEx x v = some "ValueError") && (decide (isExs x e1 = some (exNames.take 4)) && (decide (isExs x e2 = some ((exNames.drop 4).take 4)) && (decide (isExs x e3 = some ((exNames.drop 8).take 4)) && decide (isExs x e4 = some (exNames.drop 12)))))
  | _ => false)))))
theorem ex_shape {x c : Str} {e : Expr} (h : isEx x e = some c) : ∃ p1 p2 p3 p4, e = .Call (.Name "isinstance" p1) [.Name x p2, .Name c p3] [] p4 := by
  unfold isEx at h
  split at h
  · split at h
    · rename_i ck
      obtain ⟨rfl, rfl⟩ := of_decide_eq_true ck
      cases h
      exact ⟨_, _, _, _, rfl⟩
    · cases h
  · cases h
theorem ex_names_ok : ∀ c ∈ exNames, (decide ((c == ("__debug__" : Str)) = false)) = true := by decide +kernel
section
variable {X : Cx} {a : Addr} {oe : Obj} {c x : Str}
theorem isEs_of (w : WhK X.K X.mg) (hc : c ∈ exNames) (z : Zc (.ref (He.ga X.K c)) none oe) (f : ∃ vs, oe.data = .fields vs) (pin : (a, oe) ∈ X.pn) (gi : Gl X "isinstance") (hx : ∀ p, PE X (.Name x p) (tVar 0)) (gl : ∀ d ∈ exNames, Gl X d) :
    ∀ {es : List Expr} {ds : List Str}, isExs x es = some ds → (∀ d ∈ ds, d ∈ exNames) → IsEs X 0 a es (ds.map fun d => decide (c = d))
  | [], ds, h, _ => by
    cases h
    exact .nil
  | e :: r, ds, h, m => by
    unfold isExs at h
    split at h
    · rename_i d q h1 h2
      cases h
      have md := m d List.mem_cons_self
      obtain ⟨p1, p2, p3, p4, rfl⟩ := ex_shape h1
      have hy : PE X (.Name d p3) (tC (.ref (He.ga X.K d))) := pe_glob (gl d md) (w.at_ d md) rfl (of_decide_eq_true (ex_names_ok d md))
      exact .cons (pe_isX (w.exc c hc) z f pin gi w.isi (hx p2) hy (fun u r => by cases r; rfl) (w.kit c hc d md)) rfl (isEs_of w hc z f pin gi hx gl h2 fun y hy => m y (List.mem_cons_of_mem _ hy))
    · cases h
theorem ix_facts : ∀ c ∈ exNames, (match exIx c with
    | some n => (decide (((exNames.take 4).map fun d => decide (c = d)) ++ ((exNames.drop 4).take 4).map (fun d => decide (c = d)) ++ ((exNames.drop 8).take 4).map (fun d => decide (c = d)) ++ (exNames.drop 12).map (fun d => decide (c = d)) = List.replicate n false ++ true :: List.replicate (15 - n) false))
    | none => false) = true := by decide +kernel
theorem val_of (w : WhK X.K X.mg) (hc : c ∈ exNames) (z : Zc (.ref (He.ga X.K c)) none oe) (f : ∃ vs, oe.data = .fields vs) (pin : (a, oe) ∈ X.pn) (gi : Gl X "isinstance") (gv : Gl X "ValueError") (hx : ∀ p, PE X (.Name x p) (tVar 0)) {v : Expr} (h : isEx x v = some "ValueError") :
    PE X v (tIs 0 a true) ∧ ∀ whole, isTrue v X.env whole = (do let v' ← whole; standAt v.pos; holding [v'] (truthy v')) := by
  obtain ⟨p1, p2, p3, p4, rfl⟩ := ex_shape h
  exact ⟨pe_isX (w.exc c hc) z f pin gi w.isi (hx p2) (pe_bltn (v := V.ty "ValueError") gv w.ve (by rfl) rfl (by decide) (by decide)) (fun u r => r) (w.val c hc), fun _ => rfl⟩
end
/-! ### the call of it, the exception pinned -/
section
variable {P : Program} {w : World} {K : PySem.W.Frag} {mg : Str → Option Value} {base : Heap} {CX : CXT}
theorem fnP_of {k : Nat} {f : Addr} {name : Str} {params : Arguments} {body : List Stmt} {scope : Scope} {fd : FuncData} {x o : Str} {p : Addr × Obj} {n : Nat} (F : FunD K name name params body scope [] [] f fd) (S : FnScope [x, o] [x] scope)
    (hbody : ∀ (cdv : Value) (A : Around) (outer : List Env) (s : Shared) (H : Hp) (E : XK), PSs (L2H.cxH CX P w K mg base [x, o] name scope f cdv A outer s H E p) body (fun D σ H => σ = [some (.ref p.1), none] ∧ ∀ q H', Same H H' → H q = none → H' q = some (.tup [.str "refused", .int (n : Nat)]) → D.rt (.ref q) H')) :
    FnP P w K mg base CX k f fd x p n := by
  intro A outer sh H args Q E room pin e0 binds done
  obtain ⟨oc, od, dV, kV, doc, pm, an, cdv, ct, osl, rfl, lk, cd, _, _⟩ := F.ex
  have same : ∀ b ob, base.get? b = some ob → sh.heap.get? b = some ob := fun b ob e => (e0.bs b ob e).1
  have kin : K.In sh.heap := e0.mod.kin.keeps same
  have where_ : ∀ y ∈ [(x, Value.ref p.1)], scope.names.lookup y.1 = some .local ∨ (scope.names.lookup y.1 = some .cell ∧ ((cellsFrom (sh.heap.objs.size + 1) scope.names []).lookup y.1).isSome = true) := fun y m => by
    rw [List.mem_singleton] at m
    subst m
    exact (S.par x List.mem_cons_self).imp id fun q => ⟨q, PySem.W.cellsFrom_some _ _ _ (.inl q)⟩
  refine codeAny_call_function room.depth (kin _ _ lk) rfl S.co S.gen rfl (PySem.W.codeRec_of kin cd) (binds _ _ _ _ (wpAny_newFunctionEnv_cells S.kind where_ fun env en s1 inc => ?_))
  subst en
  refine ⟨(e0.mod.nolimit.keeps same).keeps inc.toInCall.keep, codeAny_func ?_⟩
  have I : Inv (L2H.cxH CX P w K mg base [x, o] name scope f cdv A outer sh H E p) [] (L2.start [x, o] [V.ref p.1]) H s1 := L2H.inv_startH (ps := [x]) (vs := [.ref p.1]) (us := [.ref p.1]) S pin e0 rfl (.cons rfl .nil) inc
  refine wpAny_mono ((hbody cdv A outer sh H E).run [] s1 _ H { nx := fun _ _ => False, rt := Q } I ⟨rfl, done⟩) (fun fl s2 z => ?_) fun _ _ z => z
  cases fl with
  | ret u =>
    obtain ⟨v, τ, H2, J, r, q⟩ := z
    exact ⟨v, H2, J.os, J.bare, J.base, J.hok, r, q⟩
  | next => exact z.elim fun _ z => z.elim fun _ z => z.2.elim
  | brk => exact z.elim fun _ z => z.elim fun _ z => z.2.elim
  | cont => exact z.elim fun _ z => z.elim fun _ z => z.2.elim
theorem which_ok {k : Nat} {f : Addr} {name : Str} {params : Arguments} {body : List Stmt} {scope : Scope} {fd : FuncData} {x o c : Str} {p : Addr × Obj} {n : Nat} (F : FunD K name name params body scope [] [] f fd) (ck : chWh x o scope body = true) (W : WhK K mg) (hc : c ∈ exNames) (hn : exIx c = some n)
    (z : Zc (.ref (He.ga K c)) none p.2) (fl : ∃ vs, p.2.data = .fields vs) : FnP P w K mg base CX k f fd x p n := by
  unfold chWh at ck
  simp only [Bool.and_eq_true, decide_eq_true_eq, List.all_eq_true] at ck
  obtain ⟨⟨s1, s2, s3⟩, ⟨nd, lx, lo⟩, nofree, ⟨⟨gi, gv⟩, gl⟩, ⟨d1, d2, d3, d4⟩, tx⟩ := ck
  have S : FnScope [x, o] [x] scope := ⟨s1, s2, s3, nd, rfl, fun y m => by rw [List.mem_singleton.mp m]; exact .inl lx, nofree⟩
  refine fnP_of F S fun cdv A outer sh H E => ?_
  split at tx
  · rename_i e1 e2 e3 e4 v hB
    simp only [Bool.and_eq_true, decide_eq_true_eq] at tx
    obtain ⟨tv, t1, t2, t3, t4⟩ := tx
    have pin : (p.1, p.2) ∈ (L2H.cxH CX P w K mg base [x, o] name scope f cdv A outer sh H E p).pn := List.mem_cons_self
    have hx : ∀ q, PE (L2H.cxH CX P w K mg base [x, o] name scope f cdv A outer sh H E p) (.Name x q) (tVar 0) := fun q => pe_var rfl (.inl lx) d1 d2
    have ho : ∀ q, PE (L2H.cxH CX P w K mg base [x, o] name scope f cdv A outer sh H E p) (.Name o q) (tVar 1) := fun q => pe_var rfl (.inl lo) d3 d4
    have sub : ∀ (i j : Nat), ∀ d ∈ (exNames.drop i).take j, d ∈ exNames := fun i j d m => List.mem_of_mem_drop (List.mem_of_mem_take m)
    obtain ⟨v1, v2⟩ := val_of (X := L2H.cxH CX P w K mg base [x, o] name scope f cdv A outer sh H E p) W hc z fl pin gi gv hx tv
    have fact := ix_facts c hc
    rw [hn] at fact
    have fact := of_decide_eq_true fact
    have hn16 : n < 16 := by
      unfold exIx at hn
      dsimp only at hn
      split at hn
      · cases hn; assumption
      · cases hn
    refine whB_ok (i := 0) hB nd rfl rfl lo ho ⟨e1, e2, e3, e4, rfl, isEs_of W hc z fl pin gi hx gl t1 (fun d m => List.mem_of_mem_take m), isEs_of W hc z fl pin gi hx gl t2 (sub 4 4), isEs_of W hc z fl pin gi hx gl t3 (sub 8 4), isEs_of W hc z fl pin gi hx gl t4 fun d m => List.mem_of_mem_drop m⟩ v1 v2 (by simp only [List.length_map]; decide) ?_ ?_ ?_
    · rw [fact]
      simp [List.count_append, List.count_cons, List.count_replicate]
    · rw [fact, List.getElem?_append_right (by simp)]
      simp
    · intro m hm
      rw [fact, List.getElem?_append_left (by simpa using hm)]
      simp [hm]
  · cases tx
end
end MP
end
section
set_option Elab.async false
set_option linter.all false
set_option autoImplicit false
set_option maxRecDepth 100000
set_option maxHeartbeats 4000001
namespace MP
open L2 PySem PySem.Spec PyProof.Rows

theorem exIx_mem {c : Str} {n : Nat} (h : exIx c = some n) : c ∈ exNames := by
  unfold exIx at h
  dsimp only at h
  split at h
  · rename_i lt
    exact List.idxOf_lt_length_iff.mp lt
  · cases h
section
variable {X : Cx} {cc : Cc} {cf : CT} {W : WX} {lev : Nat} {H0 : Hp}
/-- what is wished of the suite: it returns the number -/
def tTold (K : PySem.W.Frag) (i : Nat) (a : Addr) (cls : Value) (d : Option Addr) : TS := fun D σ H => ∃ c n, exIx c = some n ∧ (cls = .ref (He.ga K c) ∧ d = none) ∧ (∃ τ : L2.St, σ = τ.set i (some (.ref a))) ∧
  ∀ q H', Same H H' → H q = none → H' q = some (.tup [.str "refused", .int (n : Nat)]) → D.rt (.ref q) H'
theorem told_ok {f n : Str} {i : Nat} {p1 p2 p3 p4 : Pos} (G : GX X cc cf W lev) (hf : f ∈ cc.whs) (gf : Gl X f) (df : (f == ("__debug__" : Str)) = false) (hi : X.N[i]? = some n) (hv : ∀ (a : Addr) (pn : List (Addr × Obj)), PE (X.suite a pn) (.Name n p2) (tVar i))
    (a : Addr) (oe : Obj) (cls : Value) (d : Option Addr) (pn : List (Addr × Obj)) (z : Zc cls d oe) (fl : ∃ vs, oe.data = .fields vs) : PSs (X.suite a ((a, oe) :: pn)) [.Return (some (.Call (.Name f p1) [.Name n p2] [] p3)) p4] (tTold X.K i a cls d) := by
  obtain ⟨wk, fa, fd, x, hm, hk, hb, run⟩ := G.wh f hf
  have call : PE (X.suite a ((a, oe) :: pn)) (.Call (.Name f p1) [.Name n p2] [] p3) (fun σ H Q => ∃ c n, exIx c = some n ∧ (cls = .ref (He.ga X.K c) ∧ d = none) ∧ (∃ τ : L2.St, σ = τ.set i (some (.ref a))) ∧ ∀ q H', Same H H' → H q = none → H' q = some (.tup [.str "refused", .int (n : Nat)]) → Q (.ref q) H') := by
    refine ⟨fun pins sh σ H Q I ⟨c, m, hc, ⟨ec, ed⟩, ⟨τ, eτ⟩, k⟩ => ?_⟩
    subst ec ed
    have at_ : σ[i]? = some (some (.ref a)) := by
      have l1 : i < X.N.length := (List.getElem?_eq_some_iff.mp hi).1
      have l2 : σ.length = X.N.length := I.len
      subst eτ
      rw [List.length_set] at l2
      exact List.getElem?_set_self (by omega)
    refine wpAny_Call_Name_kw (ld_glob I gf hm ?_ df)
    have ha : PA (X.suite a ((a, oe) :: pn)) [.Name n p2] (tCons (tVar i) tNil) := pa_cons (hv a _) pa_nil
    refine PySem.W.callWith_K (h₀ := X.base) I.ok.mod.kin hk (thn (ha.run p3 pins sh σ H (fun vs H1 => vs = [.ref a] ∧ H1 = H) I ⟨.ref a, at_, rfl, rfl⟩) fun us s1 ⟨vs, H1, I1, r, e1, e2⟩ => ⟨I1.kIn, ?_⟩)
    subst e1 e2
    obtain ⟨u, rfl, ru⟩ := r.one
    cases ru
    have pin := I1.pin (a, oe) (List.mem_append_left _ List.mem_cons_self)
    have pok : L2H.PinOk (X.suite a ((a, oe) :: pn)).stack H1 s1 (a, oe) := ⟨pin.1, pin.2.1, fun m => (List.mem_cons.mp (I1.stkSub a m)).elim pin.2.2.1 pin.2.2.2.1, pin.2.2.2.2⟩
    have b := hb s1 [.ref a] I1.kIn rfl
    refine wpAny_call (codeAny_mono (run c m (a, oe) (exIx_mem hc) hc z fl (X.suite a ((a, oe) :: pn)).A (X.suite a ((a, oe) :: pn)).stack s1 H1 ⟨[.ref a], []⟩ Q (fun _ _ _ => False) ⟨G.room.dp, G.room.un⟩ pok I1.env0 b k) fun r s2 q => ?_)
    cases r with
    | error e =>
      obtain ⟨_, _, _, _, _, _, _, _, _, _, _, _, no⟩ := q
      exact no.elim
    | ok fl =>
      cases fl with
      | ret u => exact I1.after q
      | next => exact False.elim q
      | brk => exact False.elim q
      | cont => exact False.elim q
  exact PSs.weak (pss_cons (ps_ret call) pss_nil) fun D σ H h => h
theorem ss_try {body : List Stmt} {f n : Str} {i : Nat} {g : Rho → R Fl} {np p1 p2 p3 p4 pos pos' : Pos} (G : GX X cc cf W lev) (top : cc.top = true) (hf : f ∈ cc.whs) (gf : Gl X f) (df : (f == ("__debug__" : Str)) = false) (gs : Gl X "SiteError") (hi : X.N[i]? = some n) (ln : X.env.scope.names.lookup n = some .local)
    (dn : (n == ("__debug__" : Str)) = false) (dc : (n == ("__classdict__" : Str)) = false) (hb : ∀ (X' : Cx) (W' : WX), X'.K = X.K → GX X' cc cf W' lev → PSs X' body (tS X.K H0 W' g)) :
    PS X (.Try body [.ExceptHandler (some (.Name "SiteError" np)) (some n) [.Return (some (.Call (.Name f p1) [.Name n p2] [] p3)) p4] pos'] [] [] pos) (tS X.K H0 W fun ρ => tryR (g ρ)) := by
  obtain ⟨st, fr⟩ := G.top top
  obtain ⟨wk, _⟩ := G.wh f hf
  have kind : X.env.kindOf n = some .local := ln
  refine PS.weak (ps_try_as (tb := fun W' => tS X.K H0 W' g) (ts := tTold X.K i) (Wout := W) st fr G.nd hi kind ⟨gs, by decide, .inl wk.sup⟩ G.tk (fun W' pn xe tk own => ?_) fun a oe cls d pn z fl => told_ok G hf gf df hi (fun a pn => pe_var hi (.inl ln) dn dc) a oe cls d pn z fl) fun D σ H ⟨S, ρ, E, h⟩ => ⟨S, ρ, E, ?_⟩
  · exact hb (X.tr pn xe) W' rfl ⟨G.N, G.nd, G.names, G.kind, G.calm, G.room, tk, own, G.fn, G.free, G.glob, G.funs, G.exc, G.top, G.wh⟩
  · have h : wS X.K H0 W D σ S H ρ (tryR (g ρ)) := h
    cases hg : g ρ with
    | st => rw [hg] at h; exact h
    | ok fl ρ1 =>
      rw [hg] at h
      cases fl <;> exact h
    | ex c ρ1 =>
      rw [hg] at h
      simp only [tryR] at h
      cases hn : exIx c with
      | none => rw [hn] at h; exact h.elim
      | some m =>
        rw [hn] at h
        intro σ' S' H' ev
        refine ⟨true, wk.site c (exIx_mem hn), fun _ a ha => ⟨c, m, hn, ⟨rfl, rfl⟩, ⟨σ', rfl⟩, fun q H2 same hq at_ => ?_⟩, fun z => nomatch z⟩
        · have ev2 := ev.trans (Evo.same ev.env same)
          refine h σ' S' H2 (.ref q) ev2 ?_ fun z => nomatch z
          simp only [Good]
          exact ⟨q, _, rfl, .inl (.inl at_), .cons (by simp only [Good]) (.cons (by simp only [Good]) .nil)⟩
end
end MP
end
section
set_option Elab.async false
set_option linter.all false
set_option autoImplicit false
set_option maxRecDepth 100000
set_option maxHeartbeats 4000001
/-! calls without arguments, calls of a def picked out of a row of defs -/
namespace MP
open L2 PySem PySem.Spec PyProof.Rows
section
variable {X : Cx} {H0 : Hp} {W : WX} {cc : Cc} {cf : CT} {lev : Nat} {p pos : Pos}
theorem sv_stk {e : Expr} : SV X H0 W e (MP.mk fun _ => .st) := by
  refine ⟨⟨fun _ _ _ _ _ _ h => ?_⟩, ⟨fun _ _ _ _ _ _ h => ?_⟩, ⟨fun _ _ _ _ _ _ h => ?_⟩⟩ <;> (obtain ⟨_, _, _, q⟩ := h; exact q.elim)
theorem sv_ca0 {f : Str} (G : GX X cc cf W lev) (hf : (f, 0) ∈ cc.funs) (hg : Gl X f) (hdb : (f == ("__debug__" : Str)) = false) : SV X H0 W (.Call (.Name f p) [] [] pos) (MP.mk (v_ca cf f [] [])) := by
  obtain ⟨fa, fd, ps, hl, hm, hk, hb, hF⟩ := G.funs f _ hf
  refine SV.mk' ⟨fun pins s σ H Q I ⟨S, ρ, E, h⟩ => ?_⟩ fun _ => rfl
  refine (wpAny_Call_Name_kw (ld_glob I hg hm ?_ hdb))
  have h' : Aft X.K H0 W σ S H ρ (callR cf f [] ρ) (wV X.K H0 σ H Q) := h
  exact PySem.W.callWith_K0 I.kIn hk (run_fnS (us := []) (vs := []) (E := fun σ cls d H' => W cls d σ H') hF G.room hb (passAt G.tk σ) I .nil (call_weak (Evo.refl E) (os := []) rfl rfl h'))
/-! ### [f, g, ..][i](..) -/
def fnV (X : Cx) (f : Str) : V := match X.mg f with
  | some (.ref a) => .ref a
  | _ => .non
/-- the texts are these names -/
def namesE : List Expr → List Str → Bool
  | [], [] => true
  | .Name x _ :: es, f :: fs => decide (x = f) && namesE es fs
  | _, _ => false
theorem fn_at (G : GX X cc cf W lev) {f : Str} {n : Nat} (hf : (f, n) ∈ cc.funs) : ∃ fa, X.mg f = some (.ref fa) ∧ fnV X f = .ref fa := by
  obtain ⟨fa, _, _, _, hm, _⟩ := G.funs f _ hf
  exact ⟨fa, hm, by unfold fnV; rw [hm]⟩
theorem pa_fns (G : GX X cc cf W lev) {n : Nat} : ∀ {es : List Expr} {fs : List Str}, namesE es fs = true → (∀ f ∈ fs, (f, n) ∈ cc.funs ∧ Gl X f ∧ (f == ("__debug__" : Str)) = false) → PA X es (fun _ H Q => Q (fs.map (fnV X)) H)
  | [], [], _, _ => PA.weak pa_nil fun _ _ _ h => h
  | [], _ :: _, h, _ => by simp only [namesE] at h; cases h
  | e :: es, [], h, _ => by cases e <;> (simp only [namesE] at h; cases h)
  | e :: es, f :: fs, h, k => by
    cases e with
    | Name x q =>
      simp only [namesE, Bool.and_eq_true, decide_eq_true_eq] at h
      obtain ⟨rfl, h2⟩ := h
      obtain ⟨k1, k2, k3⟩ := k x List.mem_cons_self
      obtain ⟨fa, hm, ef⟩ := fn_at G k1
      have ih := pa_fns G h2 fun f m => k f (List.mem_cons_of_mem _ m)
      refine PA.weak (pa_cons (pe_glob (v := .ref fa) k2 hm rfl k3) ih) fun σ H Q h => ?_
      rw [List.map_cons, ef] at h
      exact h
    | _ => simp only [namesE] at h; cases h
theorem aft_same {α : Type} {σ : L2.St} {S : List Addr} {H H1 : Hp} {ρ : Rho} {r : R α} {P : List Addr → Hp → Rho → α → Prop} (E : EnvOk X.K H0 S σ H ρ) (s : Same H H1) (h : Aft X.K H0 W σ S H ρ r P) : Aft X.K H0 W σ S H1 ρ r fun S' H' ρ' a => Evo X.K H0 σ S H ρ σ S' H' ρ' ∧ Evo X.K H0 σ S H1 ρ σ S' H' ρ' ∧ P S' H' ρ' a := by
  cases r with
  | st => exact h
  | ex c ρ' => exact fun S' H' ev => h S' H' ((Evo.same E s).trans ev)
  | ok a ρ' => exact fun S' H' ev => ⟨(Evo.same E s).trans ev, ev, h S' H' ((Evo.same E s).trans ev)⟩
/-- the def that is picked -/
def pickF (fs : List Str) (i : Sm) : Rho → R Str := fun ρ => (i.v ρ).bind fun d ρ1 => match d.1 with
  | .int j => optB (nth fs j) fun f => .ok f ρ1
  | _ => .st
theorem atI_nth {α β : Type} (g : α → β) (xs : List α) (j : Int) {x : α} (h : nth xs j = some x) : atI (xs.map g) j = some (g x) := by
  unfold nth at h
  rw [Option.bind_eq_some_iff] at h
  obtain ⟨k, hk, hx⟩ := h
  unfold atI
  rw [List.length_map]
  show (MP.ixN xs.length j).bind _ = _
  rw [hk, Option.bind_some, List.getElem?_map, hx]
  rfl
theorem pe_pickF {ns : List Expr} {fs : List Str} {ix : Expr} {i : Sm} {n : Nat} {p1 p2 : Pos} (G : GX X cc cf W lev) (hn : namesE ns fs = true) (hl : fs.length ≤ 100) (hfs : ∀ f ∈ fs, (f, n) ∈ cc.funs ∧ Gl X f ∧ (f == ("__debug__" : Str)) = false) (hp : plainE ix = true) (hi : SV X H0 W ix i) :
    PE X (.Subscript (.List ns p1) ix p2) (fun σ H Q => tR X.K H0 W (pickF fs i) σ H fun S' H' ρ' f => Q (fnV X f) H') := by
  refine PE.weak (pe_ix ix_list (pe_lst (pa_fns G hn hfs)) hi.v (sub_plain hp)) fun σ H Q ⟨S, ρ, E, h⟩ => ⟨?_, fun q hq => ?_⟩
  · rw [List.length_map]
    exact Nat.le_trans hl (by decide)
  · have same : Same H (upd H q (.lst (fs.map (fnV X)))) := same_upd hq
    refine ⟨S, ρ, E.same same, (aft_same E same (Aft.bind h)).thn fun S1 H1 ρ1 d _ ⟨ev0, ev, k⟩ v g _ => ?_⟩
    obtain ⟨dd, fr⟩ := d
    cases dd with
    | int j =>
      simp only at k g
      obtain ⟨f, hf, k⟩ := k.opt
      have k' := k.now ev.env
      simp only [Good] at g
      have notM : ¬ MA σ ρ q := fun m => by
        obtain ⟨m1, o, m2, _⟩ := E.ma m
        rw [hq] at m2
        cases m2
      have at1 : H1 q = some (.lst (fs.map (fnV X))) := ev.keep q _ upd_same notM
      exact ⟨q, fs.map (fnV X), j, fnV X f, rfl, g, .inl (.inl at1), atI_nth _ _ _ hf, k'⟩
    | _ => exact k.elim
theorem nth_mem {α : Type} {xs : List α} {j : Int} {x : α} (h : nth xs j = some x) : x ∈ xs := by
  unfold nth at h
  rw [Option.bind_eq_some_iff] at h
  obtain ⟨k, _, hx⟩ := h
  exact List.mem_of_getElem? hx
theorem eval_callS (a b : Expr) (q : Pos) (args : List Expr) (env : Env) : eval (.Call (.Subscript a b q) args [] pos) env = (do callWith pos (← eval (.Subscript a b q) env) [] (backTo pos (starEach args env)) (backToKw pos (keywordEach [] env))) := rfl
theorem evs_len : ∀ {ms : List Sm} {ρ ρ' : Rho} {ds : List PyData}, evs ms ρ = .ok ds ρ' → ds.length = ms.length
  | [], ρ, ρ', ds, h => by cases h; rfl
  | m :: ms, ρ, ρ', ds, h => by
    have h' : ((m.v ρ).bind fun d ρ1 => (evs ms ρ1).bind fun ds ρ2 => .ok (d.1 :: ds) ρ2) = .ok ds ρ' := h
    cases h1 : m.v ρ with
    | st => rw [h1] at h'; cases h'
    | ex c q => rw [h1] at h'; cases h'
    | ok d ρ1 =>
      rw [h1] at h'
      simp only [R.bind] at h'
      cases h2 : evs ms ρ1 with
      | st => rw [h2] at h'; cases h'
      | ex c q => rw [h2] at h'; cases h'
      | ok es ρ2 =>
        rw [h2] at h'
        cases h'
        rw [List.length_cons, List.length_cons, evs_len h2]
theorem opds_val {K : PySem.W.Frag} {S : List Addr} {H : Hp} {σ : L2.St} : ∀ {ds : List PyData} {vs : List V}, GoodL K S H ds vs → OpdsOk K S H σ (ds.map .val) vs
  | [], vs, g => by
    simp only [GoodL] at g
    exact g
  | d :: ds, vs, g => by
    simp only [GoodL] at g
    obtain ⟨v, r, e, g1, g2⟩ := g
    exact ⟨v, r, e, g1, opds_val g2⟩
theorem cx_eq (fs : List Str) (i : Sm) (ms : List Sm) (ρ : Rho) : v_cx cf fs i ms ρ = (pickF fs i ρ).bind fun f ρ1 => (evs ms ρ1).bind fun ds ρ2 => callR cf f (ds.map .val) ρ2 := by
  unfold v_cx pickF
  cases i.v ρ with
  | st => rfl
  | ex c q => rfl
  | ok d ρ1 =>
    obtain ⟨dd, fr⟩ := d
    cases dd with
    | int j =>
      simp only [R.bind]
      cases nth fs j <;> rfl
    | _ => rfl
theorem pick_mem {fs : List Str} {i : Sm} {ρ ρ1 : Rho} {f : Str} (h : pickF fs i ρ = .ok f ρ1) : f ∈ fs := by
  unfold pickF at h
  cases hv : i.v ρ with
  | st => rw [hv] at h; cases h
  | ex c q => rw [hv] at h; cases h
  | ok d ρ2 =>
    rw [hv] at h
    obtain ⟨dd, fr⟩ := d
    cases dd with
    | int j =>
      simp only [R.bind] at h
      cases hj : nth fs j with
      | none => rw [hj] at h; cases h
      | some g =>
        rw [hj] at h
        cases h
        exact nth_mem hj
    | _ => cases h
theorem sv_cx {ns : List Expr} {fs : List Str} {ix : Expr} {i : Sm} {e : Expr} {es : List Expr} {ms : List Sm} {p1 p2 : Pos} (G : GX X cc cf W lev) (hn : namesE ns fs = true) (hl : fs.length ≤ 100) (hfs : ∀ f ∈ fs, (f, ms.length) ∈ cc.funs ∧ Gl X f ∧ (f == ("__debug__" : Str)) = false) (hp : plainE ix = true) (hi : SV X H0 W ix i)
    (h : SVs X H0 W (e :: es) ms) (hpl : (e :: es).all plainE = true) : SV X H0 W (.Call (.Subscript (.List ns p1) ix p2) (e :: es) [] pos) (MP.mk (v_cx cf fs i ms)) := by
  have hpl' := hpl
  rw [List.all_cons, Bool.and_eq_true] at hpl'
  refine SV.mk' ⟨fun pins s σ H Q I ⟨S, ρ, E, h0⟩ => ?_⟩ fun _ => rfl
  rw [eval_callS]
  have h1 : Aft X.K H0 W σ S H ρ (v_cx cf fs i ms ρ) (wV X.K H0 σ H Q) := h0
  rw [cx_eq] at h1
  have pf : tR X.K H0 W (pickF fs i) σ H fun S1 H1 ρ1 f => fnV X f = fnV X f ∧ f ∈ fs ∧ Evo X.K H0 σ S H ρ σ S1 H1 ρ1 ∧ Aft X.K H0 W σ S1 H1 ρ1 ((evs ms ρ1).bind fun ds ρ2 => callR cf f (ds.map .val) ρ2) (wV X.K H0 σ H Q) :=
    ⟨S, ρ, E, (Aft.bind h1).len.thn fun S1 H1 ρ1 f ev ⟨hok, q⟩ => ⟨rfl, pick_mem hok, ev, q⟩⟩
  have run1 := (pe_pickF (p1 := p1) (p2 := p2) G hn hl hfs hp hi).run pins s σ H (fun v H1 => ∃ f S1 ρ1, v = fnV X f ∧ f ∈ fs ∧ Evo X.K H0 σ S H ρ σ S1 H1 ρ1 ∧ Aft X.K H0 W σ S1 H1 ρ1 ((evs ms ρ1).bind fun ds ρ2 => callR cf f (ds.map .val) ρ2) (wV X.K H0 σ H Q)) I
    (by obtain ⟨S', ρ', E', q⟩ := pf; exact ⟨S', ρ', E', q.thn fun S1 H1 ρ1 f ev k => ⟨f, S1, ρ1, rfl, k.2⟩⟩)
  refine wpAny_bind (thn run1 fun u s1 ⟨v, H1, I1, r1, f, S1, ρ1, ev_, mf, ev, q⟩ => ?_)
  subst ev_
  obtain ⟨k1, k2, k3⟩ := hfs f mf
  obtain ⟨fa, fd, ps, hlen, hm, hk, hb, hF⟩ := G.funs f _ k1
  have efa : fnV X f = .ref fa := by unfold fnV; rw [hm]
  rw [efa] at r1
  cases r1
  refine PySem.W.callWith_K (h₀ := X.base) I.ok.mod.kin hk (thn ((args_v h hpl).run pos pins s1 σ H1 (fun vs H2 => spV X.K cf f ms.length vs H2 Q fun cls d H' => W cls d σ H') I1 ⟨S1, ρ1, ev.env, (Aft.bind q).len.thn fun S2 H2 ρ2 ds ev2 ⟨hds, q⟩ vs g => ?_⟩) fun us s2 ⟨vs, H2, I2, r2, q2⟩ => ⟨I2.kIn, run_fnS (E := fun σ cls d H' => W cls d σ H') hF G.room hb (passAt G.tk σ) I2 r2 q2⟩) (star_plain hpl'.1) (stars_plain hpl'.2)
  exact call_weak (ev.trans ev2) (opds_val g) (by rw [List.length_map]; exact evs_len hds) q
end
end MP
end
section
set_option Elab.async false
set_option linter.all false
set_option autoImplicit false
set_option maxRecDepth 100000
set_option maxHeartbeats 4000001
namespace MP
open PySem.Spec PyProof.Rows L2 PySem

/-! ### equal data -/
mutual
def dEq : PyData → PyData → Bool
  | .none, .none => true
  | .bool a, .bool b => decide (a = b)
  | .int a, .int b => decide (a = b)
  | .str a, .str b => decide (a = b)
  | .tuple a, .tuple b => dEqs a b
  | .list a, .list b => dEqs a b
  | _, _ => false
def dEqs : List PyData → List PyData → Bool
  | [], [] => true
  | a :: r, b :: q => dEq a b && dEqs r q
  | _, _ => false
end
mutual
theorem dEq_ok : ∀ {a b : PyData}, dEq a b = true → a = b
  | .none, b, h => by cases b <;> first | rfl | (simp only [dEq] at h; cases h)
  | .bool a, b, h => by
    cases b <;> simp only [dEq] at h <;> first | (rw [of_decide_eq_true h]) | cases h
  | .int a, b, h => by
    cases b <;> simp only [dEq] at h <;> first | (rw [of_decide_eq_true h]) | cases h
  | .str a, b, h => by
    cases b <;> simp only [dEq] at h <;> first | (rw [of_decide_eq_true h]) | cases h
  | .tuple a, b, h => by
    cases b <;> simp only [dEq] at h <;> first | (rw [dEqs_ok h]) | cases h
  | .list a, b, h => by
    cases b <;> simp only [dEq] at h <;> first | (rw [dEqs_ok h]) | cases h
  | .dict a, b, h => by cases b <;> (simp only [dEq] at h; cases h)
theorem dEqs_ok : ∀ {a b : List PyData}, dEqs a b = true → a = b
  | [], b, h => by cases b <;> first | rfl | (simp only [dEqs] at h; cases h)
  | a :: r, b, h => by
    cases b with
    | nil => simp only [dEqs] at h; cases h
    | cons c q =>
      simp only [dEqs, Bool.and_eq_true] at h
      rw [dEq_ok h.1, dEqs_ok h.2]
end
/-! ### names -/
def gl (c : Cc) (x : Str) : Bool := decide (c.names.lookup x = some .globalImplicit) && decide ((x == ("__debug__" : Str)) = false)
def bl (c : Cc) (x : Str) : Bool := gl c x && (decide (x ≠ "__name__") && decide (x ∈ c.free))
def vis (c : Cc) (x : Str) : Bool := (decide (c.names.lookup x = some .local) || (decide (c.names.lookup x = some .cell) || decide (c.names.lookup x = some .free))) && (decide ((x == ("__debug__" : Str)) = false) && decide ((x == ("__classdict__" : Str)) = false))
section
variable {X : Cx} {c : Cc} {cf : CT} {W : WX} {lev : Nat} {x : Str}
theorem GX.gl (G : GX X c cf W lev) (h : MP.gl c x = true) : Gl X x ∧ (x == ("__debug__" : Str)) = false := by
  unfold MP.gl at h
  rw [Bool.and_eq_true] at h
  refine ⟨?_, of_decide_eq_true h.2⟩
  show X.env.scope.names.lookup x = _
  rw [G.names]
  exact of_decide_eq_true h.1
theorem GX.bl (G : GX X c cf W lev) (h : MP.bl c x = true) : Gl X x ∧ X.mg x = none ∧ x ≠ "__name__" ∧ (x == ("__debug__" : Str)) = false := by
  unfold MP.bl at h
  rw [Bool.and_eq_true, Bool.and_eq_true] at h
  obtain ⟨h1, h2⟩ := G.gl h.1
  exact ⟨h1, G.free x (of_decide_eq_true h.2.2), of_decide_eq_true h.2.1, h2⟩
theorem GX.var (G : GX X c cf W lev) {i : Nat} {pos : Pos} (hi : c.N[i]? = some x) (h : MP.vis c x = true) : PE X (.Name x pos) (tVar i) := by
  unfold MP.vis at h
  simp only [Bool.and_eq_true, Bool.or_eq_true, decide_eq_true_eq] at h
  refine pe_var (G.N ▸ hi) ?_ h.2.1 h.2.2
  show X.env.scope.names.lookup x = _ ∨ X.env.scope.names.lookup x = _ ∨ X.env.scope.names.lookup x = _
  rw [G.names]
  exact h.1
end
/-! ### the context of a block -/
def relN (outer ns : List (Str × NameKind)) : List (Str × NameKind) := ns.map fun (n, k) => if (k == .free && outer.lookup n == some .cell) then (n, .cell) else (n, k)
def Cc.blk (c : Cc) (scope : Scope) : Cc := { c with top := false, names := relN c.names scope.names, sto := fun x => decide (scope.names.lookup x = some .local) || decide (scope.names.lookup x = some .cell) }
theorem GX.blk {X : Cx} {c : Cc} {cf : CT} {W : WX} {lev : Nat} {scope : Scope} (G : GX X c cf W lev) (hk : scope.kind = .function) : BlkCx X scope fun X' => GX X' (c.blk scope) cf noW lev := by
  intro s H C cl fp
  have hn : (compEnvC scope cl C X.env).scope.names = relN c.names scope.names := by
    show scope.names.map _ = scope.names.map _
    congr 1
    funext ⟨n, k⟩
    simp only [PySem.Env.kindOf, G.kind, G.names]
    cases k <;> simp
  refine ⟨G.N, G.nd, hn, hk, G.calm, G.room, fun u s' ⟨a, B, sI, pins, σ, H, cls, d, e, I, nb, up, sky, na, os, ag, w⟩ => w.elim, PassesOwn.never, fun x hx => ?_, G.free, G.glob, G.funs, G.exc, (fun z => nomatch z), G.wh⟩
  have hx : (decide (scope.names.lookup x = some .local) || decide (scope.names.lookup x = some .cell)) = true := hx
  rw [Bool.or_eq_true, decide_eq_true_eq, decide_eq_true_eq] at hx
  have key : ∀ k, k ≠ NameKind.free → scope.names.lookup x = some k → (compEnvC scope cl C X.env).scope.names.lookup x = some k := fun k hk' h => by
    exact lookup_relS_keep (sc := X.env.scope) hk' h
  rcases hx with h | h
  · have := key .local (fun z => nomatch z) h
    exact ⟨.inl this, .inr this⟩
  · have := key .cell (fun z => nomatch z) h
    exact ⟨.inr this, .inl (by show (scope.names.lookup x == some .cell) = true; rw [h]; rfl)⟩
/-! ### shapes -/
def fn1 (o : Op) (x : Str) : Bool := match o with
  | .len => decide (x = "len")
  | .all => decide (x = "all")
  | .any => decide (x = "any")
  | .sum => decide (x = "sum")
  | .mx => decide (x = "max")
  | .mn => decide (x = "min")
  | .mxT => decide (x = "max")
  | .mnT => decide (x = "min")
  | .sorted => decide (x = "sorted")
  | .tuple => decide (x = "tuple")
  | .list => decide (x = "list")
  | .int => decide (x = "int")
  | _ => false
def fn2 (o : Op) (x : Str) : Bool := match o with
  | .mx2 => decide (x = "max")
  | .mn2 => decide (x = "min")
  | _ => false
def tyN (t : String) (y : Str) : Bool := tyOkT t && decide (y = Str.ofString t)
def binO : Op → Operator → Bool
  | .add, .Add | .sub, .Sub | .mul, .Mult | .fdiv, .FloorDiv | .mod, .Mod | .pow, .Pow => true
  | _, _ => false
def isOp (n : Bool) : CmpOp := if n = true then .IsNot else .Is
/-- the operands' texts -/
def shOp (c : Cc) (o : Op) (e : Expr) : Option (List Expr) := match e with
  | .BinOp a op b _ => if binO o op = true then some [a, b] else none
  | .UnaryOp .USub a _ => (match o with
    | .neg => some [a]
    | _ => none)
  | .Compare a [op] [b] _ => (match o, b with
    | .isC n .none, .Constant .none _ _ => if decide (op = isOp n) = true then some [a] else none
    | .isC n (.bool k), .Constant (.bool k') _ _ => if (decide (op = isOp n) && decide (k = k')) = true then some [a] else none
    | .emp, .Dict [] [] _ => if decide (op = .Eq) = true then some [a] else none
    | o, b => if (cmpOk o op && plainE b) = true then some [a, b] else none)
  | .Subscript a b _ => (match o with
    | .idx => if plainE b = true then some [a, b] else none
    | _ => none)
  | .Call (.Name x _) [a] [] _ => (match o, a with
    | .sortedSet, .Call (.Name y _) [b] [] _ => if ((decide (x = "sorted") && bl c x) && ((decide (y = "set") && bl c y) && plainE b)) = true then some [b] else none
    | o, a => if (fn1 o x && bl c x) = true then some [a] else none)
  | .Call (.Name x _) [a, b] [] _ => (match o, b with
    | .isi t, .Name y _ => if ((decide (x = "isinstance") && bl c x) && (tyN t y && bl c y)) = true then some [a] else none
    | o, b => if (fn2 o x && bl c x) = true then some [a, b] else none)
  | _ => none
section
variable {X : Cx} {H0 : Hp} {c : Cc} {cf : CT} {W : WX} {lev : Nat} {x : Str} {e : Expr} {es : List Expr} {ms : List Sm}
theorem svs1 {a : Expr} (h : SVs X H0 W [a] ms) : ∃ m, ms = [m] ∧ SV X H0 W a m := by
  cases h with
  | cons h1 h2 => cases h2; exact ⟨_, rfl, h1⟩
theorem svs2 {a b : Expr} (h : SVs X H0 W [a, b] ms) : ∃ m m2, ms = [m, m2] ∧ SV X H0 W a m ∧ SV X H0 W b m2 := by
  cases h with
  | cons h1 h2 =>
    obtain ⟨m2, e, h3⟩ := svs1 h2
    subst e
    exact ⟨_, m2, rfl, h1, h3⟩
theorem bin_ok {o : Op} {op : Operator} (h : binO o op = true) : OpR X (binaryOp op) (rV2 X.K o) := by
  unfold binO at h
  split at h
  · exact opv_add
  · exact opv_sub
  · exact opv_mul
  · exact opv_fdiv
  · exact opv_mod
  · exact opv_pow
  · cases h
theorem fn1_ok {o : Op} {a : Expr} {m : Sm} {p pos : Pos} (G : GX X c cf W lev) (h : fn1 o x = true) (hb : bl c x = true) (hp : plainE a = true) (ha : SV X H0 W a m) : SV X H0 W (.Call (.Name x p) [a] [] pos) (MP.mk (v_op o [m])) := by
  obtain ⟨h1, h2, h3, h4⟩ := G.bl hb
  have hu := G.room.units
  unfold fn1 at h
  split at h
  · have e := of_decide_eq_true h; subst e
    exact sv_b1 cv_len h1 h2 boot_len h3 h4 hp ha
  · have e := of_decide_eq_true h; subst e
    exact sv_b1 (cv_all G.calm) h1 h2 (by rfl) h3 h4 hp ha
  · have e := of_decide_eq_true h; subst e
    exact sv_b1 (cv_any G.calm) h1 h2 (by rfl) h3 h4 hp ha
  · have e := of_decide_eq_true h; subst e
    exact sv_b1 (cv_sum G.calm) h1 h2 (by rfl) h3 h4 hp ha
  · have e := of_decide_eq_true h; subst e
    exact sv_b1 (cv_mx G.calm) h1 h2 (by rfl) h3 h4 hp ha
  · have e := of_decide_eq_true h; subst e
    exact sv_b1 (cv_mn G.calm) h1 h2 (by rfl) h3 h4 hp ha
  · have e := of_decide_eq_true h; subst e
    exact sv_b1 (cv_mxT G.calm hu) h1 h2 (by rfl) h3 h4 hp ha
  · have e := of_decide_eq_true h; subst e
    exact sv_b1 (cv_mnT G.calm hu) h1 h2 (by rfl) h3 h4 hp ha
  · have e := of_decide_eq_true h; subst e
    exact sv_b1 (cv_sorted hu) h1 h2 (by rfl) h3 h4 hp ha
  · have e := of_decide_eq_true h; subst e
    exact sv_ty1 cv_tuple (fun x H Q h => ⟨x, rfl, h⟩) h1 h2 (by rfl) h3 h4 hp ha
  · have e := of_decide_eq_true h; subst e
    refine sv_ty1 cv_list (fun x H Q h => ?_) h1 h2 (by rfl) h3 h4 hp ha
    obtain ⟨S, dx, d, hd, g, hpr, post⟩ := h
    exact ⟨x, S, dx, d, rfl, (fun k ek => by subst ek; cases hpr), hd, g, hpr, post⟩
  · have e := of_decide_eq_true h; subst e
    exact sv_ty1 cv_int (fun x H Q h => ⟨x, rfl, h⟩) h1 h2 (by rfl) h3 h4 hp ha
  · cases h
theorem shOp_ok {o : Op} (G : GX X c cf W lev) (h : shOp c o e = some es) (hp : es.all plainE = true) (hs : SVs X H0 W es ms) : SV X H0 W e (MP.mk (v_op o ms)) := by
  have hu := G.room.units
  unfold shOp at h
  split at h
  · split at h
    · rename_i hb
      cases h
      obtain ⟨m, m2, em, h1, h2⟩ := svs2 hs
      subst em
      exact sv_bin (bin_ok hb) h1 h2
    · cases h
  · split at h
    · cases h
      obtain ⟨m, em, h1⟩ := svs1 hs
      subst em
      exact sv_neg h1
    · cases h
  · split at h
    · split at h
      · rename_i hop
        cases h
        obtain ⟨m, em, h1⟩ := svs1 hs
        subst em
        exact sv_isN (of_decide_eq_true hop) h1
      · cases h
    · split at h
      · rename_i hop
        rw [Bool.and_eq_true] at hop
        cases h
        have ek := of_decide_eq_true hop.2
        subst ek
        obtain ⟨m, em, h1⟩ := svs1 hs
        subst em
        exact sv_isB (of_decide_eq_true hop.1) h1
      · cases h
    · split at h
      · rename_i hop
        cases h
        obtain ⟨m, em, h1⟩ := svs1 hs
        subst em
        rw [of_decide_eq_true hop]
        exact sv_emp hu h1
      · cases h
    · split at h
      · rename_i hop
        rw [Bool.and_eq_true] at hop
        cases h
        obtain ⟨m, m2, em, h1, h2⟩ := svs2 hs
        subst em
        exact sv_cmpo hu hop.1 hop.2 h1 h2
      · cases h
  · split at h
    · split at h
      · rename_i hb
        cases h
        obtain ⟨m, m2, em, h1, h2⟩ := svs2 hs
        subst em
        exact sv_idx (by omega) hb h1 h2
      · cases h
    · cases h
  · split at h
    · split at h
      · rename_i hb
        simp only [Bool.and_eq_true, decide_eq_true_eq] at hb
        obtain ⟨⟨e1, b1⟩, ⟨e2, b2⟩, b3⟩ := hb
        cases h
        subst e1 e2
        obtain ⟨m, em, h1⟩ := svs1 hs
        subst em
        obtain ⟨g1, g2, _, _⟩ := G.bl b1
        obtain ⟨k1, k2, _, _⟩ := G.bl b2
        exact sv_sset G.calm hu g1 g2 k1 k2 b3 h1
      · cases h
    · split at h
      · rename_i hb
        rw [Bool.and_eq_true] at hb
        cases h
        rw [List.all_cons, Bool.and_eq_true] at hp
        obtain ⟨m, em, h1⟩ := svs1 hs
        subst em
        exact fn1_ok G hb.1 hb.2 hp.1 h1
      · cases h
  · split at h
    · split at h
      · rename_i hb
        simp only [Bool.and_eq_true, decide_eq_true_eq] at hb
        obtain ⟨⟨ex, b1⟩, ht, b2⟩ := hb
        subst ex
        cases h
        rw [List.all_cons, Bool.and_eq_true] at hp
        obtain ⟨m, em, h1⟩ := svs1 hs
        subst em
        unfold tyN at ht
        rw [Bool.and_eq_true] at ht
        have ey := of_decide_eq_true ht.2
        subst ey
        obtain ⟨g1, g2, g3, g4⟩ := G.bl b1
        obtain ⟨k1, k2, k3, k4⟩ := G.bl b2
        refine sv_isi ht.1 g1 g2 k1 k2 ?_ k3 k4 hp.1 h1
        have ht1 := ht.1
        unfold tyOkT at ht1
        simp only [Bool.or_eq_true, beq_iff_eq] at ht1
        rcases ht1 with (((h | h) | h) | h) | h <;> subst h <;> rfl
      · cases h
    · split at h
      · rename_i hb
        rw [Bool.and_eq_true] at hb
        cases h
        simp only [List.all_cons, Bool.and_eq_true] at hp
        obtain ⟨m, m2, em, h1, h2⟩ := svs2 hs
        subst em
        obtain ⟨g1, g2, g3, g4⟩ := G.bl hb.2
        have hf := hb.1
        unfold fn2 at hf
        split at hf
        · have e := of_decide_eq_true hf; subst e
          exact sv_b2 (cv_mx2 G.calm) g1 g2 (by rfl) g3 g4 hp.1 hp.2.1 h1 h2
        · have e := of_decide_eq_true hf; subst e
          exact sv_b2 (cv_mn2 G.calm) g1 g2 (by rfl) g3 g4 hp.1 hp.2.1 h1 h2
        · cases hf
      · cases h
  · cases h
/-! ### sources -/
def isTupE : Expr → Bool
  | .Tuple _ _ _ => true
  | _ => false
def shI (c : Cc) (ik : Ik) (tg iter : Expr) : Option (List Expr) := match ik with
  | .lis => some [iter]
  | .rng1 => (match iter with
    | .Call (.Name x _) [a] [] _ => if (decide (x = "range") && bl c x) = true then some [a] else none
    | _ => none)
  | .rng2 => (match iter with
    | .Call (.Name x _) [a, b] [] _ => if (decide (x = "range") && bl c x) = true then some [a, b] else none
    | _ => none)
  | .enu => (match iter with
    | .Call (.Name x _) [a] [] _ => if ((decide (x = "enumerate") && bl c x) && isTupE tg) = true then some [a] else none
    | _ => none)
  | .zip => (match iter with
    | .Call (.Name x _) [a, b] [] _ => if ((decide (x = "zip") && bl c x) && isTupE tg) = true then some [a, b] else none
    | _ => none)
  | .keys => none
theorem shI_ok {ik : Ik} {tg iter : Expr} (G : GX X c cf W lev) (h : shI c ik tg iter = some es) (hp : es.all plainE = true) (hs : SVs X H0 W es ms) : PI X tg iter (tI X.K H0 W ik ms) := by
  unfold shI at h
  split at h
  · cases h
    obtain ⟨m, em, h1⟩ := svs1 hs
    subst em
    exact pi_lis h1
  · split at h
    · split at h
      · rename_i hb
        simp only [Bool.and_eq_true, decide_eq_true_eq] at hb
        obtain ⟨ex, b1⟩ := hb
        subst ex
        cases h
        simp only [List.all_cons, Bool.and_eq_true] at hp
        obtain ⟨m, em, h1⟩ := svs1 hs
        subst em
        obtain ⟨g1, g2, g3, g4⟩ := G.bl b1
        exact pi_rng1 h1 hp.1 g1 g2
      · cases h
    · cases h
  · split at h
    · split at h
      · rename_i hb
        simp only [Bool.and_eq_true, decide_eq_true_eq] at hb
        obtain ⟨ex, b1⟩ := hb
        subst ex
        cases h
        simp only [List.all_cons, Bool.and_eq_true] at hp
        obtain ⟨m, m2, em, h1, h2⟩ := svs2 hs
        subst em
        obtain ⟨g1, g2, g3, g4⟩ := G.bl b1
        exact pi_rng2 h1 h2 hp.1 hp.2.1 g1 g2
      · cases h
    · cases h
  · split at h
    · split at h
      · rename_i hb
        simp only [Bool.and_eq_true, decide_eq_true_eq] at hb
        obtain ⟨⟨ex, b1⟩, ht⟩ := hb
        subst ex
        cases h
        simp only [List.all_cons, Bool.and_eq_true] at hp
        obtain ⟨m, em, h1⟩ := svs1 hs
        subst em
        obtain ⟨g1, g2, g3, g4⟩ := G.bl b1
        cases tg with
        | Tuple a b c => exact pi_enu h1 hp.1 g1 g2
        | _ => cases ht
      · cases h
    · cases h
  · split at h
    · split at h
      · rename_i hb
        simp only [Bool.and_eq_true, decide_eq_true_eq] at hb
        obtain ⟨⟨ex, b1⟩, ht⟩ := hb
        subst ex
        cases h
        simp only [List.all_cons, Bool.and_eq_true] at hp
        obtain ⟨m, m2, em, h1, h2⟩ := svs2 hs
        subst em
        obtain ⟨g1, g2, g3, g4⟩ := G.bl b1
        cases tg with
        | Tuple a b c => exact pi_zip2 h1 h2 hp.1 hp.2.1 g1 g2
        | _ => cases ht
      · cases h
    · cases h
  · cases h
theorem bo_of {k : Bool} : ∀ {es : List Expr} {ms : List Sm}, SVs X H0 W es ms → es ≠ [] → BO X H0 W k es (boS k ms)
  | [], _, _, h => absurd rfl h
  | [e], _, h, _ => by
    obtain ⟨m, em, h1⟩ := svs1 h
    subst em
    exact .one h1
  | a :: b :: r, _, h, _ => by
    cases h with
    | cons h1 h2 =>
      have ih := bo_of (k := k) h2 (fun z => nomatch z)
      cases h2 with
      | cons h3 h4 =>
        cases k with
        | true => exact .an h1 ih
        | false => exact .or h1 ih
theorem sv_bo {k : Bool} {pos : Pos} {a b : Expr} {r : List Expr} (h : SVs X H0 W (a :: b :: r) ms) : SV X H0 W (.BoolOp (boOp k) (a :: b :: r) pos) (boS k ms) := by
  cases h with
  | cons h1 h2 =>
    have ih := bo_of (k := k) h2 (fun z => nomatch z)
    cases h2 with
    | cons h3 h4 =>
      cases k with
      | true => exact sv_and h1 ih
      | false => exact sv_orr h1 ih
end
end MP
end
section
set_option Elab.async false
set_option linter.all false
set_option autoImplicit false
set_option maxRecDepth 100000
set_option maxHeartbeats 4000001
namespace MP
open PySem.Spec PyProof.Rows L2 PySem

def constOk : PyData → Expr → Bool
  | .none, .Constant .none _ _ => true
  | .bool a, .Constant (.bool b) _ _ => decide (a = b)
  | .int a, .Constant (.int b) _ _ => decide (a = b)
  | .str a, .Constant (.str b) _ _ => decide (a = b)
  | _, _ => false
theorem const_ok {X : Cx} {H0 : Hp} {W : WX} {d : PyData} {e : Expr} (h : constOk d e = true) : SV X H0 W e (MP.mk fun ρ => .ok (d, false) ρ) := by
  unfold constOk at h
  split at h
  · exact SV.mk' (sv_const pe_non fun S H => by simp only [Good]) fun _ => rfl
  · rw [of_decide_eq_true h]; exact SV.mk' (sv_const pe_bl fun S H => by simp only [Good]) fun _ => rfl
  · rw [of_decide_eq_true h]; exact SV.mk' (sv_const pe_int fun S H => by simp only [Good]) fun _ => rfl
  · rw [of_decide_eq_true h]; exact SV.mk' (sv_const pe_str fun S H => by simp only [Good]) fun _ => rfl
  · cases h
def ownOf (N : List Str) (t : Tg) : List (Str × Nat) := (tgSlots t).map fun i => (N.getD i "", i)
theorem ownOf_snd (N : List Str) (t : Tg) : (ownOf N t).map (·.2) = tgSlots t := by
  unfold ownOf
  rw [List.map_map]
  exact List.map_id' _
/-- a block's frame: its scope, its target -/
def chB (c : Cc) (t : Tg) (tg : Expr) (scope : Scope) : Bool := blkC c.N { scope with names := c.names } scope (ownOf c.N t) && (decide (scope.kind = .function) && chT c.N (c.blk scope).sto t tg)
theorem chB_ok {X : Cx} {c : Cc} {cf : CT} {W : WX} {lev : Nat} {t : Tg} {tg : Expr} {scope : Scope} (G : GX X c cf W lev) (h : chB c t tg scope = true) : BlkOk X.N X.env.scope scope (ownOf c.N t) ∧ scope.kind = .function ∧ BlkCx X scope fun X' => ∀ H0, PG X' tg (tB X'.K H0 (bindTg t) (tgSlots t)) := by
  unfold chB at h
  simp only [decide_eq_true_eq, Bool.and_eq_true] at h
  obtain ⟨h1, h2, h3⟩ := h
  have b := blkOk_by h1
  refine ⟨⟨b.kind, b.uniq, ?_, ?_, ?_⟩, h2, fun s H C cl fp H0 => ?_⟩
  · rw [G.N]; exact b.ix
  · rw [G.names]; exact b.free
  · rw [G.N]; exact b.own
  · have G' := G.blk h2 s H C cl fp
    exact pg_tg (N := c.N) (sto := (c.blk scope).sto) G'.N G'.nd G'.calm G'.fn t tg h3
def hasF (c : Cc) (f : Str) (n : Nat) : Bool := c.funs.any fun p => decide (p.1 = f) && decide (p.2 = n)
theorem hasF_ok {c : Cc} {f : Str} {n : Nat} (h : hasF c f n = true) : (f, n) ∈ c.funs := by
  unfold hasF at h
  rw [List.any_eq_true] at h
  obtain ⟨⟨a, b⟩, hm, hp⟩ := h
  simp only [Bool.and_eq_true, decide_eq_true_eq] at hp
  rw [← hp.1, ← hp.2]
  exact hm
def hasG (c : Cc) (x : Str) (d : PyData) : Bool := c.glob.any fun p => decide (p.1 = x) && dEq p.2 d
theorem hasG_ok {c : Cc} {x : Str} {d : PyData} (h : hasG c x d = true) : (x, d) ∈ c.glob := by
  unfold hasG at h
  rw [List.any_eq_true] at h
  obtain ⟨⟨a, b⟩, hm, hp⟩ := h
  simp only [Bool.and_eq_true, decide_eq_true_eq] at hp
  rw [← hp.1, ← dEq_ok hp.2]
  exact hm
/-- the keys of a dict that has a name -/
def keyI (c : Cc) : Ik → List ME → Expr → Bool
  | .keys, [.v i], .Name x _ => decide (c.N[i]? = some x) && vis c x
  | _, _, _ => false
theorem keyI_ok {X : Cx} {c : Cc} {cf : CT} {W : WX} {lev : Nat} {ik : Ik} {ia : List ME} {e : Expr} (G : GX X c cf W lev) (h : keyI c ik ia e = true) : ik = .keys ∧ ∃ i, ia = [.v i] ∧ PE X e (tVar i) := by
  unfold keyI at h
  split at h
  · rw [Bool.and_eq_true, decide_eq_true_eq] at h
    exact ⟨rfl, _, rfl, G.var h.1 h.2⟩
  · cases h
def nlE : Expr → Bool
  | .Name _ _ => true
  | .List _ _ => true
  | _ => false
theorem nlE_ok {e : Expr} {x : Str} {env : Env} (h : nlE e = true) : attributeBase e x env (eval e env) = eval e env := by
  cases e <;> first | rfl | cases h
mutual
def chE (c : Cc) : ME → Expr → Bool
  | .c d, e => constOk d e
  | .v i, .Name x _ => decide (c.N[i]? = some x) && vis c x
  | .g x d, .Name y _ => (decide (x = y) && gl c x) && hasG c x d
  | .op o as, e => (match shOp c o e with
    | some es => es.all plainE && chEs c as es
    | none => false)
  | .ch o1 o2 a b d, .Compare l [p1, p2] [m, r] _ => ((cmpOk o1 p1 && cmpOk o2 p2) && plainE r) && (chE c a l && (chE c b m && chE c d r))
  | .sl a lo hi, .Subscript x (.Slice l h none _) _ => chE c a x && (chEs c lo l.toList && chEs c hi h.toList)
  | .tu as, .Tuple es _ _ => es.all plainE && chEs c as es
  | .li as, .List es _ => es.all plainE && chEs c as es
  | .dn _, .Dict [] [] _ => true
  | .bo k as, .BoolOp op (a :: b :: r) _ => decide (op = boOp k) && chEs c as (a :: b :: r)
  | .nt a, .UnaryOp .Not x _ => chE c a x
  | .ie d a b, .IfExp x y z _ => chE c d x && (chE c a y && chE c b z)
  | .ca f as io, .Call (.Name g _) (e :: es) [] _ => ((decide (f = g) && gl c f) && (hasF c f as.length && decide (io.length = as.length))) && ((e :: es).all plainE && chEs c as (e :: es))
  | .cp el tg ik ia cd, .ListComp elt [⟨t, iter, ifs, 0⟩] scope _ => ((chB c tg t scope && plainE iter) && decide (cd.length ≤ 1)) && ((keyI c ik ia iter || (match shI c ik t iter with
      | some es => es.all plainE && chEs c ia es
      | none => false)) && (chEs (c.blk scope) cd ifs && chE (c.blk scope) el elt))
  | .dc mk mv tg ik ia cd, .DictComp kx vx [⟨t, iter, ifs, 0⟩] scope _ => ((chB c tg t scope && plainE iter) && decide (cd.length ≤ 1)) && ((keyI c ik ia iter || (match shI c ik t iter with
      | some es => es.all plainE && chEs c ia es
      | none => false)) && (chEs (c.blk scope) cd ifs && (chE (c.blk scope) mk kx && chE (c.blk scope) mv vx)))
  | .ix tp a b, .Call (.Attribute o nm ap) [e] [] cp => ((decide (nm = "index") && (ap.endLine == cp.line)) && (plainE e && nlE o)) && ((chE c a o && chE c b e) && (match tp, a, o with
      | false, _, _ => true
      | true, .g x d, .Name y _ => (decide (x = y) && gl c x) && hasG c x d
      | _, _, _ => false))
  | .ls el tg ik ia cd, .Call (.Name x _) [.SetComp elt [⟨t, iter, ifs, 0⟩] scope _] [] _ => ((decide (x = "len") && bl c x) && ((chB c tg t scope && plainE iter) && decide (cd.length ≤ 1))) && ((match shI c ik t iter with
      | some es => es.all plainE && chEs c ia es
      | none => false) && (chEs (c.blk scope) cd ifs && chE (c.blk scope) el elt))
  | .cx fs i as, .Call (.Subscript (.List ns _) ix _) (e :: es) [] _ => ((namesE ns fs && decide (fs.length ≤ 100)) && ((fs.all fun f => hasF c f as.length && gl c f) && plainE ix)) && (chE c i ix && ((e :: es).all plainE && chEs c as (e :: es)))
  | .ca f [] [], .Call (.Name g _) [] [] _ => (decide (f = g) && gl c f) && hasF c f 0
  | .stk, _ => true
  | _, _ => false
def chEs (c : Cc) : List ME → List Expr → Bool
  | [], [] => true
  | m :: ms, e :: es => chE c m e && chEs c ms es
  | _, _ => false
end
section
variable {cf : CT} {lev : Nat}
theorem sems_len : ∀ ms : List ME, (sems cf ms).length = ms.length
  | [] => by simp only [sems]; rfl
  | m :: r => by simp only [sems, List.length_cons, sems_len r]
theorem part_of {X : Cx} {H0 : Hp} {W : WX} {l : Option Expr} {ms : List Sm} (h : SVs X H0 W l.toList ms) : Part X H0 W l ms := by
  cases l with
  | none => cases h; exact .none
  | some e =>
    obtain ⟨m, em, h1⟩ := svs1 h
    subst em
    exact .some h1
mutual
theorem chE_ok : ∀ (m : ME) {c : Cc} {e : Expr} {X : Cx} {W : WX}, chE c m e = true → GX X c cf W lev → ∀ H0, SV X H0 W e (sem cf m)
  | .c d, c, e, X, W, h, G, H0 => by
    simp only [chE] at h
    simp only [sem]
    exact const_ok h
  | .v i, c, e, X, W, h, G, H0 => by
    cases e with
    | Name x p =>
      simp only [chE, Bool.and_eq_true, decide_eq_true_eq] at h
      simp only [sem]
      exact sv_var (G.var h.1 h.2) fun _ => rfl
    | _ => simp only [chE] at h; cases h
  | .g x d, c, e, X, W, h, G, H0 => by
    cases e with
    | Name y p =>
      simp only [chE, Bool.and_eq_true, decide_eq_true_eq] at h
      obtain ⟨⟨e1, e2⟩, e3⟩ := h
      subst e1
      simp only [sem]
      obtain ⟨g1, g2⟩ := G.gl e2
      obtain ⟨v, u, hm, r, g, _⟩ := G.glob x d (hasG_ok e3)
      exact SV.mk' (sv_const (pe_glob g1 hm r g2) g) fun _ => rfl
    | _ => simp only [chE] at h; cases h
  | .op o as, c, e, X, W, h, G, H0 => by
    simp only [chE] at h
    simp only [sem]
    split at h
    · rename_i es hes
      rw [Bool.and_eq_true] at h
      exact shOp_ok G hes h.1 (chEs_ok as h.2 G H0)
    · cases h
  | .ch o1 o2 a b d, c, e, X, W, h, G, H0 => by
    simp only [sem]
    unfold chE at h
    split at h <;> rename_i heq <;> first | (cases heq; done) | skip
    · cases heq
      simp only [(Bool.and_eq_true)] at h
      obtain ⟨⟨⟨h1, h2⟩, h3⟩, h4, h5, h6⟩ := h
      exact sv_ch G.room.units h1 h2 h3 (chE_ok a h4 G H0) (chE_ok b h5 G H0) (chE_ok d h6 G H0)
    · cases h
  | .sl a lo hi, c, e, X, W, h, G, H0 => by
    simp only [sem]
    unfold chE at h
    split at h <;> rename_i heq <;> first | (cases heq; done) | skip
    · cases heq
      simp only [(Bool.and_eq_true)] at h
      exact sv_sl (chE_ok a h.1 G H0) (part_of (chEs_ok lo h.2.1 G H0)) (part_of (chEs_ok hi h.2.2 G H0))
    · cases h
  | .tu as, c, e, X, W, h, G, H0 => by
    simp only [sem]
    cases e with
    | Tuple es k p =>
      simp only [chE, Bool.and_eq_true] at h
      exact sv_tu (chEs_ok as h.2 G H0) h.1
    | _ => simp only [chE] at h; cases h
  | .li as, c, e, X, W, h, G, H0 => by
    simp only [sem]
    cases e with
    | List es p =>
      simp only [chE, Bool.and_eq_true] at h
      exact sv_li (chEs_ok as h.2 G H0) h.1
    | _ => simp only [chE] at h; cases h
  | .dn t, c, e, X, W, h, G, H0 => by
    simp only [sem]
    unfold chE at h
    split at h <;> rename_i heq <;> first | (cases heq; done) | skip
    · cases heq
      exact sv_dn t
    · cases h
  | .bo k as, c, e, X, W, h, G, H0 => by
    simp only [sem]
    unfold chE at h
    split at h <;> rename_i heq <;> first | (cases heq; done) | skip
    · cases heq
      simp only [decide_eq_true_eq, Bool.and_eq_true] at h
      rw [h.1]
      exact sv_bo (chEs_ok as h.2 G H0)
    · cases h
  | .nt a, c, e, X, W, h, G, H0 => by
    simp only [sem]
    unfold chE at h
    split at h <;> rename_i heq <;> first | (cases heq; done) | skip
    · cases heq
      exact sv_nt (chE_ok a h G H0)
    · cases h
  | .ie d a b, c, e, X, W, h, G, H0 => by
    simp only [sem]
    unfold chE at h
    split at h <;> rename_i heq <;> first | (cases heq; done) | skip
    · cases heq
      simp only [(Bool.and_eq_true)] at h
      exact sv_ie (chE_ok d h.1 G H0) (chE_ok a h.2.1 G H0) (chE_ok b h.2.2 G H0)
    · cases h
  | .ca f as io, c, e, X, W, h, G, H0 => by
    simp only [sem]
    unfold chE at h
    split at h <;> rename_i heq <;> first | (cases heq; done) | skip
    · cases heq
      simp only [decide_eq_true_eq, Bool.and_eq_true] at h
      obtain ⟨⟨⟨e1, e2⟩, e3, e4⟩, e5, e6⟩ := h
      subst e1
      obtain ⟨g1, g2⟩ := G.gl e2
      have hs := chEs_ok as e6 G H0
      exact sv_ca G (by rw [sems_len]; exact hasF_ok e3) g1 g2 hs (by simpa only [List.all_cons, Bool.and_eq_true] using e5) (by rw [sems_len]; exact e4)
    · cases heq
      simp only [decide_eq_true_eq, Bool.and_eq_true] at h
      obtain ⟨⟨e1, e2⟩, e3⟩ := h
      subst e1
      obtain ⟨g1, g2⟩ := G.gl e2
      simp only [sems]
      exact sv_ca0 G (hasF_ok e3) g1 g2
    · cases h
  | .cx fs i as, c, e, X, W, h, G, H0 => by
    simp only [sem]
    unfold chE at h
    split at h <;> rename_i heq <;> first | (cases heq; done) | skip
    · cases heq
      simp only [decide_eq_true_eq, Bool.and_eq_true, List.all_eq_true] at h
      obtain ⟨⟨⟨h1, h2⟩, h3, h4⟩, h5, h6, h7⟩ := h
      exact sv_cx G h1 h2 (fun f m => ⟨by rw [sems_len]; exact hasF_ok (h3 f m).1, G.gl (h3 f m).2⟩) h4 (chE_ok i h5 G H0) (chEs_ok as h7 G H0) (List.all_eq_true.mpr h6)
    · cases h
  | .stk, c, e, X, W, h, G, H0 => by
    simp only [sem]
    exact sv_stk
  | .cp el tg ik ia cd, c, e, X, W, h, G, H0 => by
    simp only [sem]
    unfold chE at h
    split at h <;> rename_i heq <;> first | (cases heq; done) | skip
    · cases heq
      simp only [decide_eq_true_eq, Bool.and_eq_true] at h
      obtain ⟨⟨⟨e1, e2⟩, e3⟩, e4, e5, e6⟩ := h
      obtain ⟨b1, b2, b3⟩ := chB_ok G e1
      rw [Bool.or_eq_true] at e4
      rcases e4 with e4 | e4
      · obtain ⟨rfl, i, rfl, hi⟩ := keyI_ok G e4
        simp only [sems, sem]
        exact sv_cpK G.calm G.nd hi b1 (ownOf_snd _ _) b3 (fun s H C cl fp H0 => chEs_ok cd e5 (G.blk b2 s H C cl fp) H0) (by rw [sems_len]; exact e3) (fun s H C cl fp H0 => chE_ok el e6 (G.blk b2 s H C cl fp) H0) (fold_plain e2)
      split at e4
      · rename_i es hes
        rw [Bool.and_eq_true] at e4
        exact sv_cp (cf := cf) G.calm G.nd (shI_ok G hes e4.1 (chEs_ok ia e4.2 G H0)) b1 (ownOf_snd _ _) b3 (fun s H C cl fp H0 => chEs_ok cd e5 (G.blk b2 s H C cl fp) H0) (by rw [sems_len]; exact e3) (fun s H C cl fp H0 => chE_ok el e6 (G.blk b2 s H C cl fp) H0) (fold_plain e2)
      · cases e4
    · cases h
  | .dc mk mv tg ik ia cd, c, e, X, W, h, G, H0 => by
    simp only [sem]
    unfold chE at h
    split at h <;> rename_i heq <;> first | (cases heq; done) | skip
    · cases heq
      simp only [decide_eq_true_eq, Bool.and_eq_true] at h
      obtain ⟨⟨⟨e1, e2⟩, e3⟩, e4, e5, e6, e7⟩ := h
      obtain ⟨b1, b2, b3⟩ := chB_ok G e1
      rw [Bool.or_eq_true] at e4
      rcases e4 with e4 | e4
      · obtain ⟨rfl, i, rfl, hi⟩ := keyI_ok G e4
        simp only [sems, sem]
        exact sv_dcK G.calm G.nd hi b1 (ownOf_snd _ _) b3 (fun s H C cl fp H0 => chEs_ok cd e5 (G.blk b2 s H C cl fp) H0) (by rw [sems_len]; exact e3) (fun s H C cl fp H0 => chE_ok mk e6 (G.blk b2 s H C cl fp) H0) (fun s H C cl fp H0 => chE_ok mv e7 (G.blk b2 s H C cl fp) H0) (fold_plain e2)
      split at e4
      · rename_i es hes
        rw [Bool.and_eq_true] at e4
        exact sv_dc G.calm G.nd (shI_ok G hes e4.1 (chEs_ok ia e4.2 G H0)) b1 (ownOf_snd _ _) b3 (fun s H C cl fp H0 => chEs_ok cd e5 (G.blk b2 s H C cl fp) H0) (by rw [sems_len]; exact e3) (fun s H C cl fp H0 => chE_ok mk e6 (G.blk b2 s H C cl fp) H0) (fun s H C cl fp H0 => chE_ok mv e7 (G.blk b2 s H C cl fp) H0) (fold_plain e2)
      · cases e4
    · cases h
  | .ix tp a b, c, e, X, W, h, G, H0 => by
    simp only [sem]
    unfold chE at h
    split at h <;> rename_i heq <;> first | (cases heq; done) | skip
    · cases heq
      simp only [decide_eq_true_eq, Bool.and_eq_true] at h
      obtain ⟨⟨⟨e1, e2⟩, e3, e4⟩, ⟨e5, e6⟩, e7⟩ := h
      subst e1
      have hb := chE_ok b e6 G H0
      split at e7
      · exact sv_ixL (nlE_ok e4) e2 e3 (chE_ok a e5 G H0) hb
      · rename_i x d y p
        simp only [decide_eq_true_eq, Bool.and_eq_true] at e7
        obtain ⟨⟨q1, q2⟩, q3⟩ := e7
        subst q1
        obtain ⟨g1, g2⟩ := G.gl q2
        obtain ⟨v, u, hm, r, g, gt⟩ := G.glob x d (hasG_ok q3)
        simp only [sem]
        by_cases ref : ∃ q, v = .ref q
        · obtain ⟨q, eq⟩ := ref
          obtain ⟨o, ho, hn⟩ := gt q eq
          exact sv_ixT eq ho hn g (pe_glob g1 hm r g2) rfl e2 e3 hb
        · refine SV.mk' ⟨fun pins s σ H Q I ⟨S, ρ, E, hq⟩ => ?_⟩ fun _ => rfl
          have g0 := g [] (fun _ => none)
          cases d <;> first | exact hq.elim | skip
          simp only [Good] at g0
          obtain ⟨q, _, e, _⟩ := g0
          exact absurd ⟨q, e⟩ ref
      · cases e7
    · cases h
  | .ls el tg ik ia cd, c, e, X, W, h, G, H0 => by
    simp only [sem]
    unfold chE at h
    split at h <;> rename_i heq <;> first | (cases heq; done) | skip
    · cases heq
      simp only [decide_eq_true_eq, Bool.and_eq_true] at h
      obtain ⟨⟨⟨ex, bx⟩, ⟨e1, e2⟩, e3⟩, e4, e5, e6⟩ := h
      subst ex
      obtain ⟨b1, b2, b3⟩ := chB_ok G e1
      obtain ⟨g1, g2, _, _⟩ := G.bl bx
      split at e4
      · rename_i es hes
        rw [Bool.and_eq_true] at e4
        exact sv_ls G.calm G.nd (shI_ok G hes e4.1 (chEs_ok ia e4.2 G H0)) b1 (ownOf_snd _ _) b3 (fun s H C cl fp H0 => chEs_ok cd e5 (G.blk b2 s H C cl fp) H0) (by rw [sems_len]; exact e3) (fun s H C cl fp H0 => chE_ok el e6 (G.blk b2 s H C cl fp) H0) (fold_plain e2) g1 g2
      · cases e4
    · cases h
  | .sk _ _ _, c, e, X, W, h, G, H0 => by
    unfold chE at h
    cases h
theorem chEs_ok : ∀ (ms : List ME) {c : Cc} {es : List Expr} {X : Cx} {W : WX}, chEs c ms es = true → GX X c cf W lev → ∀ H0, SVs X H0 W es (sems cf ms)
  | [], c, es, X, W, h, G, H0 => by
    cases es with
    | nil => simp only [sems]; exact .nil
    | cons _ _ => simp only [chEs] at h; cases h
  | m :: ms, c, es, X, W, h, G, H0 => by
    cases es with
    | nil => simp only [chEs] at h; cases h
    | cons e es =>
      simp only [chEs, Bool.and_eq_true] at h
      simp only [sems]
      exact .cons (chE_ok m h.1 G H0) (chEs_ok ms h.2 G H0)
end
end
end MP
end
section
set_option Elab.async false
set_option linter.all false
set_option autoImplicit false
set_option maxRecDepth 100000
set_option maxHeartbeats 4000001
namespace MP
open PySem.Spec PyProof.Rows L2 PySem

/-! ### name = e: is the comprehension's value swapped -/
def compSc : Expr → Option Scope
  | .ListComp _ _ sc _ => some sc
  | .SetComp _ _ sc _ => some sc
  | .DictComp _ _ _ sc _ => some sc
  | _ => none
def swB (c : Cc) (t : Str) (tl : Nat) (e : Expr) : Bool := match compSc e with
  | none => false
  | some scope => (decide (c.names.lookup t = some .local) && (tl == e.pos.line)) && !(scope.names.any fun (n, k) => n == t && (k == .local || k == .cell))
theorem sw_ok {X : Cx} {c : Cc} {cf : CT} {W : WX} {lev : Nat} {t : Str} {tp : Pos} {e : Expr} {l : Nat} (G : GX X c cf W lev) : swapsWith e (some (.Name t tp)) l X.env = pure (swB c t tp.line e) := by
  have key : ∀ (v : Expr) (scope : Scope), (X.env.blockKind == .function && X.env.kindOf t == some .local && tp.line == v.pos.line && !(scope.names.any fun (n, k) => n == t && (k == .local || k == .cell))) =
      ((decide (c.names.lookup t = some .local) && (tp.line == v.pos.line)) && !(scope.names.any fun (n, k) => n == t && (k == .local || k == .cell))) := fun v scope => by
    have hb : (X.env.blockKind == .function) = true := by
      unfold Env.blockKind
      rw [G.kind]
      rfl
    have hk : (X.env.kindOf t == some .local) = decide (c.names.lookup t = some .local) := by
      unfold Env.kindOf
      rw [G.names, Bool.eq_iff_iff]
      simp
    rw [hb, hk, Bool.true_and]
  cases e <;> first | rfl | skip
  · rename_i a g s p
    exact congrArg (fun b => (pure b : Sem Bool)) (key (.ListComp a g s p) s)
  · rename_i a g s p
    exact congrArg (fun b => (pure b : Sem Bool)) (key (.SetComp a g s p) s)
  · rename_i a b g s p
    exact congrArg (fun b => (pure b : Sem Bool)) (key (.DictComp a b g s p) s)
theorem sw_none {e : Expr} {l : Nat} {env : Env} (h : compSc e = none) : swapsWith e none l env = pure false := by
  cases e <;> first | rfl | cases h
theorem swT_none {e tg : Expr} {l : Nat} {env : Env} (h : isTupE tg = true) : swapsWithSole [tg] e l env = pure false := by
  cases tg <;> first | (cases h; done) | (cases e <;> rfl)
theorem swS_none {e tg : Expr} {env : Env} (h : isTupE e = false) : swappedStores [tg] e env = pure none := by
  cases e <;> first | (cases h; done) | (cases tg <;> rfl)
/-! ### a, b = x, y -/
def starB : Expr → Bool
  | .Starred .. => true
  | _ => false
def nmOf (lk : Str → Bool) (l : Nat) : Expr → Option Str
  | .Name id pos => if (lk id && pos.line == l) = true then some id else none
  | _ => none
def swN (lk : Str → Bool) (ts vs : List Expr) : Option (Option (List Str)) :=
  if (!(ts.length == 2 || ts.length == 3) || vs.length != ts.length) = true then some none
  else if vs.any starB = true then some none
  else if ((ts.filterMap (nmOf lk ((ts.head?.map (·.pos.line)).getD 0))).length != ts.length || (ts.filterMap (nmOf lk ((ts.head?.map (·.pos.line)).getD 0))).eraseDups.length != (ts.filterMap (nmOf lk ((ts.head?.map (·.pos.line)).getD 0))).length) = true then some none
  else if vs.all (foldedForSure 8) = true then some none
  else if vs.all (constantsAlone 8) = true then none
  else some (some (ts.filterMap (nmOf lk ((ts.head?.map (·.pos.line)).getD 0))))
def isLocal (c : Cc) (x : Str) : Bool := decide (c.names.lookup x = some .local)
theorem swN_ok {X : Cx} {c : Cc} {cf : CT} {W : WX} {lev : Nat} {ts vs : List Expr} {k k2 : Nat} {p p2 : Pos} {r : Option (List Str)} (G : GX X c cf W lev) (h : swN (isLocal c) ts vs = some r) : swappedStores [.Tuple ts k p] (.Tuple vs k2 p2) X.env = pure r := by
  have hb : X.env.blockKind = .function := by
    unfold Env.blockKind
    rw [G.kind]
    rfl
  have hk : (fun id => X.env.kindOf id == some .local) = isLocal c := by
    funext id
    unfold Env.kindOf isLocal
    rw [G.names, Bool.eq_iff_iff]
    simp
  have e : swappedStores [.Tuple ts k p] (.Tuple vs k2 p2) X.env =
    (if (!(ts.length == 2 || ts.length == 3) || vs.length != ts.length || X.env.blockKind != .function) = true then pure none
    else if vs.any starB = true then pure none
    else if ((ts.filterMap (nmOf (fun id => X.env.kindOf id == some .local) ((ts.head?.map (·.pos.line)).getD 0))).length != ts.length || (ts.filterMap (nmOf (fun id => X.env.kindOf id == some .local) ((ts.head?.map (·.pos.line)).getD 0))).eraseDups.length != (ts.filterMap (nmOf (fun id => X.env.kindOf id == some .local) ((ts.head?.map (·.pos.line)).getD 0))).length) = true then pure none
    else if vs.all (foldedForSure 8) = true then pure none
    else if vs.all (constantsAlone 8) = true then (do unsupported "assign.tuple-of-constant-expressions:order-of-the-stores"; pure (some (ts.filterMap (nmOf (fun id => X.env.kindOf id == some .local) ((ts.head?.map (·.pos.line)).getD 0)))))
    else pure (some (ts.filterMap (nmOf (fun id => X.env.kindOf id == some .local) ((ts.head?.map (·.pos.line)).getD 0))))) := rfl
  rw [e, hb, show (ScopeKind.function != ScopeKind.function) = false from rfl, Bool.or_false, hk]
  unfold swN at h
  split at h
  · rename_i h1
    cases h
    rw [if_pos h1]
  · rename_i h1
    rw [if_neg h1]
    split at h
    · rename_i h2
      cases h
      rw [if_pos h2]
    · rename_i h2
      rw [if_neg h2]
      split at h
      · rename_i h3
        cases h
        rw [if_pos h3]
      · rename_i h3
        rw [if_neg h3]
        split at h
        · rename_i h4
          cases h
          rw [if_pos h4]
        · rename_i h4
          rw [if_neg h4]
          split at h
          · cases h
          · rename_i h5
            cases h
            rw [if_neg h5]
end MP
end
section
set_option Elab.async false
set_option linter.all false
set_option autoImplicit false
set_option maxRecDepth 100000
set_option maxHeartbeats 4000001
namespace MP
open PySem.Spec PyProof.Rows L2 PySem

def isCp : ME → Bool
  | .cp _ _ .keys _ _ => false
  | .cp _ _ _ _ _ => true
  | _ => false
def augO : Operator → Op → Bool
  | .Add, .add | .Sub, .sub => true
  | _, _ => false
def parOk (c : Cc) (ts : List Nat) (ns es : List Expr) : Bool := match swN (isLocal c) ns es with
  | some none => true
  | some (some [x, y]) => (match ts, ns, es with
    | [i, j], [.Name x' _, .Name y' _], [_, _] => ((decide (x = x') && decide (y = y')) && (isLocal c x && isLocal c y)) && decide (i ≠ j)
    | _, _, _ => false)
  | some (some [x, y, z]) => (match ts, ns, es with
    | [i, j, k], [.Name x' _, .Name y' _, .Name z' _], [_, _, _] => ((decide (x = x') && (decide (y = y') && decide (z = z'))) && (isLocal c x && (isLocal c y && isLocal c z))) && (decide (i ≠ j) && (decide (i ≠ k) && decide (j ≠ k)))
    | _, _, _ => false)
  | _ => false
def ownV (c : Cc) (i : Nat) (x : Str) : Bool := decide (c.N[i]? = some x) && vis c x
mutual
def chS (c : Cc) : MS → Stmt → Bool
  | .asg (.n i) m, .Assign [.Name x p] e _ => (decide (c.N[i]? = some x) && c.sto x) && (chE c m e && (!(swB c x p.line e) || isCp m))
  | .asg (.t ts) m, .Assign [tg] e _ => (chT c.N c.sto (.t ts) tg && isTupE tg) && (!(isTupE e) && chE c m e)
  | .par ts ms, .Assign [.Tuple ns _ _] (.Tuple es _ _) _ => ((chNs c.N c.sto ts ns && decide (ts.length ≤ 1000)) && (es.all plainE && chEs c ms es)) && parOk c ts ns es
  | .aug i o m, .AugAssign (.Name x _) op e _ => (decide (c.N[i]? = some x) && c.sto x) && (augO op o && chE c m e)
  | .app i m, .Expr (.Call (.Attribute (.Name x _) a apos) [e] [] cpos) _ => (decide (a = "append") && ownV c i x) && ((plainE e && (apos.endLine == cpos.line)) && chE c m e)
  | .ext i m, .Expr (.Call (.Attribute (.Name x _) a apos) [e] [] cpos) _ => (decide (a = "extend") && ownV c i x) && ((plainE e && (apos.endLine == cpos.line)) && chE c m e)
  | .put i k m, .Assign [.Subscript (.Name x _) ke _] e _ => (plainE ke && ownV c i x) && (chE c k ke && chE c m e)
  | .putT i ka kb m, .Assign [.Subscript (.Name x _) (.Tuple [a, b] _ _) _] e _ => (([a, b].all plainE) && ownV c i x) && ((chE c ka a && chE c kb b) && chE c m e)
  | .ret (.v i), .Return (some (.Name x _)) _ => ownV c i x
  | .ret (.c .none), .Return none _ => true
  | .ret m, .Return (some e) _ => (match m with
    | .v _ => false
    | _ => true) && chE c m e
  | .ite m a b, .If e x y _ => chE c m e && (chSs c a x && chSs c b y)
  | .forr tg ik ia b, .For t iter body [] _ => ((chT c.N c.sto tg t && plainE iter) && (match shI c ik t iter with
      | some es => es.all plainE && chEs c ia es
      | none => false)) && chSs c b body
  | .wh m b, .While e body [] _ => chE c m e && chSs c b body
  | .rai x, .Raise (some (.Call (.Name y _) [.Constant (.str _) _ _] [] _)) none _ => (decide (x = y) && gl c x) && decide (x ∈ c.excs)
  | .exp m, .Expr e _ => chE c m e && (compSc e).isNone
  | .pass, .Pass _ => true
  | .tryW b i f, .Try body [.ExceptHandler (some (.Name s _)) (some n) [.Return (some (.Call (.Name g _) [.Name n2 _] [] _)) _] _] [] [] _ =>
    ((c.top && decide (s = "SiteError" ∧ g = f ∧ n2 = n)) && ((c.whs.contains f && (gl c f && gl c "SiteError")) && (decide (c.N[i]? = some n) && (decide (c.names.lookup n = some .local) && decide ((n == ("__debug__" : Str)) = false ∧ (n == ("__classdict__" : Str)) = false))))) && chSs c b body
  | .stk, _ => true
  | _, _ => false
def chSs (c : Cc) : List MS → List Stmt → Bool
  | [], [] => true
  | m :: ms, e :: es => chS c m e && chSs c ms es
  | _, _ => false
end
theorem GX.own' {X : Cx} {c : Cc} {cf : CT} {W : WX} {lev : Nat} {i : Nat} {x : Str} {p : Pos} (G : GX X c cf W lev) (h : ownV c i x = true) : PE X (.Name x p) (tVar i) := by
  unfold ownV at h
  rw [(Bool.and_eq_true), decide_eq_true_eq] at h
  exact G.var h.1 h.2
section
variable {cf : CT} {lev : Nat} {om : List Nat}
theorem x1_ret {m : ME} (h : ∀ i, m ≠ .v i) : x1 cf om (.ret m) = fun ρ => ((sem cf m).v ρ).bind fun d ρ1 => .ok (.rt d.1 d.2) ρ1 := by
  cases m <;> first | (exact absurd rfl (h _)) | rfl
theorem par_ok {X : Cx} {c : Cc} {W : WX} {H0 : Hp} {ts : List Nat} {ns es : List Expr} {ms : List Sm} {kt k2 : Nat} {pt pt2 pos : Pos} (G : GX X c cf W lev) (h1 : chNs c.N c.sto ts ns = true) (h2 : ts.length ≤ 1000) (hp : es.all plainE = true) (hs : ∀ H0, SVs X H0 W es ms) (h : parOk c ts ns es = true) :
    PS X (.Assign [.Tuple ns kt pt] (.Tuple es k2 pt2) pos) (tS X.K H0 W (parF om ts ms)) := by
  have lo : ∀ x, isLocal c x = true → X.env.scope.names.lookup x = some .local := fun x h => by
    rw [G.names]
    exact of_decide_eq_true h
  unfold parOk at h
  split at h
  · rename_i hw
    exact ss_parT G.calm (pgs_names G.N G.nd G.fn h1) hs hp h2 (swN_ok G hw)
  · rename_i x y hw
    split at h
    · rename_i i j x' p1 y' p2 a b
      simp only [decide_eq_true_eq, Bool.and_eq_true] at h
      obtain ⟨⟨⟨e1, e2⟩, l1, l2⟩, hij⟩ := h
      subst e1 e2
      simp only [chNs, Bool.and_eq_true, decide_eq_true_eq] at h1
      exact ss_par2 G.calm G.nd (G.N ▸ h1.1.1) (G.N ▸ h1.2.1.1) hij (lo _ l1) (lo _ l2) hs hp (swN_ok G hw)
    · cases h
  · rename_i x y z hw
    split at h
    · rename_i i j k x' p1 y' p2 z' p3 a b c'
      simp only [decide_eq_true_eq, Bool.and_eq_true] at h
      obtain ⟨⟨⟨e1, e2, e3⟩, l1, l2, l3⟩, hij, hik, hjk⟩ := h
      subst e1 e2 e3
      simp only [chNs, Bool.and_eq_true, decide_eq_true_eq] at h1
      exact ss_par3 G.calm G.nd (G.N ▸ h1.1.1) (G.N ▸ h1.2.1.1) (G.N ▸ h1.2.2.1.1) hij hik hjk (lo _ l1) (lo _ l2) (lo _ l3) hs hp (swN_ok G hw)
    · cases h
  · cases h
theorem asg_ok {X : Cx} {c : Cc} {W : WX} {H0 : Hp} {i : Nat} {m : ME} {x : Str} {p pos : Pos} {e : Expr} (G : GX X c cf W lev) (hi : c.N[i]? = some x) (hsto : c.sto x = true) (he : chE c m e = true) (hsw : (!(swB c x p.line e) || isCp m) = true) :
    PS X (.Assign [.Name x p] e pos) (tS X.K H0 W (asgF om i (sem cf m))) := by
  obtain ⟨l, f⟩ := G.fn x hsto
  cases hb : swB c x p.line e with
  | false =>
    have := sw_ok (t := x) (tp := p) (e := e) (l := pos.line) G
    rw [hb] at this
    exact ss_asg G.nd (G.N ▸ hi) l f (chE_ok m he G H0) this
  | true =>
    rw [hb] at hsw
    have hsw2 := sw_ok (t := x) (tp := p) (e := e) (l := pos.line) G
    rw [hb] at hsw2
    cases m with
    | cp el tg ik ia cd =>
      simp only [sem]
      have hloc : X.env.scope.names.lookup x = some .local := by
        unfold swB at hb
        split at hb
        · cases hb
        · simp only [Bool.and_eq_true, decide_eq_true_eq] at hb
          rw [G.names]
          exact hb.1.1
      unfold chE at he
      split at he <;> rename_i heq <;> first | (cases heq; done) | skip
      · cases heq
        simp only [Bool.and_eq_true, decide_eq_true_eq] at he
        obtain ⟨⟨⟨e1, e2⟩, e3⟩, e4, e5, e6⟩ := he
        obtain ⟨b1, b2, b3⟩ := chB_ok G e1
        rw [Bool.or_eq_true] at e4
        rcases e4 with e4 | e4
        · obtain ⟨rfl, _⟩ := keyI_ok G e4
          cases hsw
        split at e4
        · rename_i es hes
          rw [Bool.and_eq_true] at e4
          exact ss_setLc G.calm G.nd (G.N ▸ hi) hloc hsw2 (shI_ok G hes e4.1 (chEs_ok ia e4.2 G H0)) b1 (ownOf_snd _ _) b3 (fun s H C cl fp H0 => chEs_ok cd e5 (G.blk b2 s H C cl fp) H0) (by rw [sems_len]; exact e3) (fun s H C cl fp H0 => chE_ok el e6 (G.blk b2 s H C cl fp) H0) (fold_plain e2)
        · cases e4
      · cases he
    | _ => cases hsw
mutual
theorem chS_ok : ∀ (m : MS) {c : Cc} {st : Stmt} {X : Cx} {W : WX}, chS c m st = true → GX X c cf W lev → ∀ H0, PS X st (tS X.K H0 W (x1 cf om m))
  | .asg (.n i) m, c, st, X, W, h, G, H0 => by
    unfold chS at h
    split at h <;> rename_i heq <;> first | (cases heq; done) | skip
    · cases heq
      simp only [decide_eq_true_eq, Bool.and_eq_true] at h
      exact asg_ok G h.1.1 h.1.2 h.2.1 h.2.2
    · cases h
  | .asg (.t ts) m, c, st, X, W, h, G, H0 => by
    unfold chS at h
    split at h <;> rename_i heq <;> first | (cases heq; done) | skip
    · cases heq
      simp only [Bool.not_eq_true', Bool.and_eq_true] at h
      obtain ⟨⟨h1, h2⟩, h3, h4⟩ := h
      exact ss_asgT (chE_ok m h4 G H0) (pg_tg G.N G.nd G.calm G.fn _ _ h1) (swT_none h2) (swS_none h3) (by rw [chT_plain h1]; simp only [assignEach]; rfl)
    · cases h
  | .par ts ms, c, st, X, W, h, G, H0 => by
    unfold chS at h
    split at h <;> rename_i heq <;> first | (cases heq; done) | skip
    · cases heq
      simp only [decide_eq_true_eq, Bool.and_eq_true] at h
      obtain ⟨⟨⟨h1, h2⟩, h3, h4⟩, h5⟩ := h
      exact par_ok G h1 h2 h3 (fun H0 => chEs_ok ms h4 G H0) h5
    · cases h
  | .aug i o m, c, st, X, W, h, G, H0 => by
    unfold chS at h
    split at h <;> rename_i heq <;> first | (cases heq; done) | skip
    · cases heq
      simp only [decide_eq_true_eq, Bool.and_eq_true] at h
      obtain ⟨⟨h1, h2⟩, h3, h4⟩ := h
      obtain ⟨l, f⟩ := G.fn _ h2
      refine ss_aug ?_ G.nd (G.N ▸ h1) l f (chE_ok m h4 G H0)
      unfold augO at h3
      split at h3
      · exact .inl ⟨rfl, rfl⟩
      · exact .inr ⟨rfl, rfl⟩
      · cases h3
    · cases h
  | .app i m, c, st, X, W, h, G, H0 => by
    unfold chS at h
    split at h <;> rename_i heq <;> first | (cases heq; done) | skip
    · cases heq
      simp only [decide_eq_true_eq, Bool.and_eq_true] at h
      obtain ⟨⟨h1, h2⟩, ⟨h3, h4⟩, h5⟩ := h
      subst h1
      exact ss_app (G.own' h2) (chE_ok m h5 G H0) h3 h4
    · cases h
  | .ext i m, c, st, X, W, h, G, H0 => by
    unfold chS at h
    split at h <;> rename_i heq <;> first | (cases heq; done) | skip
    · cases heq
      simp only [decide_eq_true_eq, Bool.and_eq_true] at h
      obtain ⟨⟨h1, h2⟩, ⟨h3, h4⟩, h5⟩ := h
      subst h1
      exact ss_ext (G.own' h2) (chE_ok m h5 G H0) h3 h4
    · cases h
  | .rem i m, c, st, X, W, h, G, H0 => by
    unfold chS at h
    cases h
  | .put i k m, c, st, X, W, h, G, H0 => by
    unfold chS at h
    split at h <;> rename_i heq <;> first | (cases heq; done) | skip
    · cases heq
      simp only [(Bool.and_eq_true)] at h
      obtain ⟨⟨h1, h2⟩, h3, h4⟩ := h
      refine ss_put G (G.own' h2) (chE_ok m h4 G H0) (chE_ok k h3 G H0) fun v => ?_
      rename_i ke _ _ _
      cases ke <;> first | (cases h1; done) | rfl
    · cases h
  | .putT i ka kb m, c, st, X, W, h, G, H0 => by
    unfold chS at h
    split at h <;> rename_i heq <;> first | (cases heq; done) | skip
    · cases heq
      simp only [(Bool.and_eq_true)] at h
      obtain ⟨⟨h1, h2⟩, ⟨h3, h4⟩, h5⟩ := h
      exact ss_putT G (G.own' h2) (chE_ok m h5 G H0) (.cons (chE_ok ka h3 G H0) (.cons (chE_ok kb h4 G H0) .nil)) h1
    · cases h
  | .ret m, c, st, X, W, h, G, H0 => by
    by_cases hv : ∃ i, m = .v i
    · obtain ⟨i, e⟩ := hv
      subst e
      unfold chS at h
      split at h <;> rename_i heq <;> first | (cases heq; done) | skip
      · cases heq
        exact ss_retV (G.own' h)
      · rename_i heq2
        cases heq
        cases h
      · cases h
    · have hv' : ∀ i, m ≠ .v i := fun i e => hv ⟨i, e⟩
      rw [x1_ret hv']
      unfold chS at h
      split at h <;> rename_i heq <;> first | (cases heq; done) | skip
      · rename_i heq2
        cases heq
        exact absurd rfl (hv' _)
      · cases heq
        simp only [sem]
        exact PS.weak ps_retN fun D σ H ⟨S, ρ, E, h⟩ => h σ S H .non (Evo.refl E) (by simp only [Good]) fun z => nomatch z
      · cases heq
        rw [Bool.and_eq_true] at h
        exact ss_ret (chE_ok m h.2 G H0)
      · cases h
  | .ite m a b, c, st, X, W, h, G, H0 => by
    unfold chS at h
    split at h <;> rename_i heq <;> first | (cases heq; done) | skip
    · cases heq
      simp only [(Bool.and_eq_true)] at h
      simp only [x1]
      exact ss_ite (chE_ok m h.1 G H0) (chSs_ok a h.2.1 G H0) (chSs_ok b h.2.2 G H0)
    · cases h
  | .forr tg ik ia b, c, st, X, W, h, G, H0 => by
    unfold chS at h
    split at h <;> rename_i heq <;> first | (cases heq; done) | skip
    · cases heq
      simp only [(Bool.and_eq_true)] at h
      rcases h with ⟨⟨⟨h1, h2⟩, h3⟩, h4⟩
      split at h3
      · rename_i es hes
        rw [Bool.and_eq_true] at h3
        exact ss_for G.own G.calm (shI_ok G hes h3.1 (chEs_ok ia h3.2 G H0)) (pg_tg G.N G.nd G.calm G.fn _ _ h1) (chSs_ok b h4 G H0) (fold_plain h2)
      · cases h3
    · cases h
  | .wh m b, c, st, X, W, h, G, H0 => by
    unfold chS at h
    split at h <;> rename_i heq <;> first | (cases heq; done) | skip
    · cases heq
      simp only [(Bool.and_eq_true)] at h
      simp only [x1]
      exact ss_wh G.own (chE_ok m h.1 G H0) (chSs_ok b h.2 G H0) wfuel
    · cases h
  | .rai x, c, st, X, W, h, G, H0 => by
    unfold chS at h
    split at h <;> rename_i heq <;> first | (cases heq; done) | skip
    · cases heq
      simp only [decide_eq_true_eq, Bool.and_eq_true] at h
      obtain ⟨⟨h1, h2⟩, h3⟩ := h
      subst h1
      obtain ⟨g1, g2⟩ := G.gl h2
      simp only [x1]
      exact ss_rai G h3 g1 g2
    · cases h
  | .exp m, c, st, X, W, h, G, H0 => by
    unfold chS at h
    split at h <;> rename_i heq <;> first | (cases heq; done) | skip
    · cases heq
      simp only [Bool.and_eq_true, Option.isNone_iff_eq_none] at h
      simp only [x1]
      exact ss_exp (chE_ok m h.1 G H0) (sw_none h.2)
    · cases h
  | .pass, c, st, X, W, h, G, H0 => by
    unfold chS at h
    split at h <;> rename_i heq <;> first | (cases heq; done) | skip
    · cases heq
      exact ss_pass
    · cases h
  | .tryW b i f, c, st, X, W, h, G, H0 => by
    unfold chS at h
    split at h <;> rename_i heq <;> first | (cases heq; done) | skip
    · cases heq
      simp only [decide_eq_true_eq, Bool.and_eq_true] at h
      obtain ⟨⟨⟨h1, rfl, rfl, rfl⟩, ⟨h2, h3, h4⟩, h5, h6, h7, h8⟩, h9⟩ := h
      obtain ⟨g1, g2⟩ := G.gl h3
      simp only [x1]
      exact ss_try G h1 (by simpa using h2) g1 g2 (G.gl h4).1 (G.N ▸ h5) (by rw [G.names]; exact h6) h7 h8 fun X' W' eK G' => by
        have := chSs_ok b h9 G' H0
        rw [eK] at this
        exact this
    · cases h
  | .stk, c, st, X, W, h, G, H0 => by
    simp only [x1]
    exact ⟨fun _ _ _ _ _ _ h => by obtain ⟨_, _, _, q⟩ := h; exact q.elim⟩
theorem chSs_ok : ∀ (ms : List MS) {c : Cc} {sts : List Stmt} {X : Cx} {W : WX}, chSs c ms sts = true → GX X c cf W lev → ∀ H0, PSs X sts (tS X.K H0 W (xs cf om ms))
  | [], c, sts, X, W, h, G, H0 => by
    cases sts with
    | nil => exact ss_nil
    | cons _ _ => simp only [chSs] at h; cases h
  | m :: ms, c, sts, X, W, h, G, H0 => by
    cases sts with
    | nil => simp only [chSs] at h; cases h
    | cons st sts =>
      simp only [chSs, Bool.and_eq_true] at h
      exact ss_cons (chS_ok m h.1 G H0) (chSs_ok ms h.2 G H0)
end
end
end MP
end
section
set_option Elab.async false
set_option linter.all false
set_option autoImplicit false
set_option maxRecDepth 100000
set_option maxHeartbeats 4000001
namespace MP
open PySem.Spec PyProof.Rows L2 PySem

/-! ### the slots at a def's entry -/
section
variable {K : PySem.W.Frag} {H H' : Hp} {S S' : List Addr}
theorem args_len : ∀ {as : Rho} {vs : List V}, ArgsOk K S H as vs → vs.length = as.length
  | [], vs, h => by have h' : vs = [] := h; rw [h']; rfl
  | .sh d :: r, vs, h => by obtain ⟨v, q, e, _, h2⟩ := h; rw [e, List.length_cons, List.length_cons, args_len h2]
  | .mu false d :: r, vs, h => by obtain ⟨v, q, e, _, h2⟩ := h; rw [e, List.length_cons, List.length_cons, args_len h2]
  | .mu true d :: r, vs, h => h.elim
  | .no :: r, vs, h => h.elim
  | .lk _ _ :: r, vs, h => h.elim
theorem args_get : ∀ {as : Rho} {vs : List V} {i : Nat} {s : Sl}, ArgsOk K S H as vs → as[i]? = some s → (∃ d v, s = .sh d ∧ vs[i]? = some v ∧ Good K S H d v) ∨ ∃ d a, s = .mu false d ∧ vs[i]? = some (.ref a) ∧ a ∈ S ∧ Cont K S H a d ∧ a ∈ ioAs as vs
  | [], vs, i, s, h, hi => by simp at hi
  | .sh d :: r, vs, i, s, h, hi => by
    obtain ⟨v, q, e, g, h2⟩ := h
    subst e
    cases i with
    | zero =>
      simp only [List.getElem?_cons_zero, Option.some.injEq] at hi
      exact .inl ⟨d, v, hi.symm, rfl, g⟩
    | succ i =>
      simp only [List.getElem?_cons_succ] at hi ⊢
      rcases args_get h2 hi with h | ⟨d', a, e1, e2, e3, e4, e5⟩
      · exact .inl h
      · exact .inr ⟨d', a, e1, e2, e3, e4, by cases v <;> exact e5⟩
  | .mu false d :: r, vs, i, s, h, hi => by
    obtain ⟨a, q, e, ⟨g1, g2⟩, h2⟩ := h
    subst e
    cases i with
    | zero =>
      simp only [List.getElem?_cons_zero, Option.some.injEq] at hi
      exact .inr ⟨d, a, hi.symm, rfl, g1, g2, List.mem_cons_self⟩
    | succ i =>
      simp only [List.getElem?_cons_succ] at hi ⊢
      rcases args_get h2 hi with h | ⟨d', a', e1, e2, e3, e4, e5⟩
      · exact .inl h
      · exact .inr ⟨d', a', e1, e2, e3, e4, List.mem_cons_of_mem _ e5⟩
  | .mu true d :: r, vs, i, s, h, hi => h.elim
  | .no :: r, vs, i, s, h, hi => h.elim
  | .lk _ _ :: r, vs, i, s, h, hi => h.elim
theorem args_apart : ∀ {as : Rho} {vs : List V} {i j : Nat} {d d' : PyData} {a : Addr}, ArgsOk K S H as vs → (ioAs as vs).Nodup → i ≠ j → as[i]? = some (.mu false d) → as[j]? = some (.mu false d') → vs[i]? = some (.ref a) → vs[j]? = some (.ref a) → False
  | [], vs, i, j, d, d', a, h, n, hij, hi, hj, _, _ => by simp at hi
  | .sh d0 :: r, vs, i, j, d, d', a, h, n, hij, hi, hj, vi, vj => by
    obtain ⟨v, q, e, g, h2⟩ := h
    subst e
    have n' : (ioAs r q).Nodup := by cases v <;> exact n
    cases i with
    | zero => simp at hi
    | succ i =>
      cases j with
      | zero => simp at hj
      | succ j =>
        simp only [List.getElem?_cons_succ] at hi hj vi vj
        exact args_apart h2 n' (fun e => hij (by rw [e])) hi hj vi vj
  | .mu false d0 :: r, vs, i, j, d, d', a, h, n, hij, hi, hj, vi, vj => by
    obtain ⟨a0, q, e, g, h2⟩ := h
    subst e
    have n' : a0 ∉ ioAs r q ∧ (ioAs r q).Nodup := List.nodup_cons.mp n
    have mem : ∀ {k : Nat} {d : PyData} {b : Addr}, r[k]? = some (.mu false d) → q[k]? = some (.ref b) → b ∈ ioAs r q := fun {k d b} hk hb => by
      rcases args_get h2 hk with ⟨_, _, e, _⟩ | ⟨d2, b2, _, e2, _, _, e5⟩
      · cases e
      · rw [hb] at e2
        cases e2
        exact e5
    cases i with
    | zero =>
      cases j with
      | zero => exact hij rfl
      | succ j =>
        simp only [List.getElem?_cons_succ, List.getElem?_cons_zero, Option.some.injEq] at hi hj vi vj
        cases vi
        exact n'.1 (mem hj vj)
    | succ i =>
      cases j with
      | zero =>
        simp only [List.getElem?_cons_succ, List.getElem?_cons_zero, Option.some.injEq] at hi hj vi vj
        cases vj
        exact n'.1 (mem hi vi)
      | succ j =>
        simp only [List.getElem?_cons_succ] at hi hj vi vj
        exact args_apart h2 n'.2 (fun e => hij (by rw [e])) hi hj vi vj
  | .mu true d0 :: r, vs, i, j, d, d', a, h, n, hij, hi, hj, vi, vj => h.elim
  | .no :: r, vs, i, j, d, d', a, h, n, hij, hi, hj, vi, vj => h.elim
  | .lk _ _ :: r, vs, i, j, d, d', a, h, n, hij, hi, hj, vi, vj => h.elim
theorem app_no {as : Rho} {n i : Nat} {s : Sl} (h : (as ++ List.replicate n .no)[i]? = some s) (hs : s ≠ .no) : as[i]? = some s := by
  by_cases hi : i < as.length
  · rw [List.getElem?_append_left hi] at h
    exact h
  · rw [List.getElem?_append_right (by omega)] at h
    have := List.getElem?_eq_some_iff.mp h
    obtain ⟨hl, e⟩ := this
    rw [List.getElem_replicate] at e
    exact absurd e.symm hs
theorem start_get {N : List Str} {vs : List V} {i : Nat} {v : V} (h : vs[i]? = some v) : (L2.start N vs)[i]? = some (some v) := by
  unfold L2.start
  have hi : i < vs.length := (List.getElem?_eq_some_iff.mp h).1
  rw [List.getElem?_append_left (by rw [List.length_map]; exact hi), List.getElem?_map, h]
  rfl
theorem env_start {N : List Str} {as : Rho} {vs : List V} {n : Nat} (hd : Dom S H) (ha : ArgsOk K S H as vs) (hn : (ioAs as vs).Nodup) (hl : as.length + n = N.length) : EnvOk K H S (L2.start N vs) H (as ++ List.replicate n .no) := by
  have hlen := args_len ha
  have mu : ∀ {i : Nat} {s : Sl}, (as ++ List.replicate n .no)[i]? = some s → isMu s = true → ∃ d a, s = .mu false d ∧ as[i]? = some (.mu false d) ∧ vs[i]? = some (.ref a) ∧ a ∈ S ∧ Cont K S H a d := fun {i s} h m => by
    have h' := app_no h (fun e => by rw [e] at m; cases m)
    rcases args_get ha h' with ⟨d, v, e, _⟩ | ⟨d, a, e, hv, hS, hc, _⟩
    · rw [e] at m; cases m
    · exact ⟨d, a, e, e ▸ h', hv, hS, hc⟩
  refine ⟨?_, fun i d h => ?_, fun i t d h => ?_, fun i j s t a hij h1 h2 m1 m2 q1 q2 => ?_, hd, fun _ h => h⟩
  · unfold L2.start
    rw [List.length_append, List.length_append, List.length_replicate, List.length_replicate, List.length_map, hlen]
    omega
  · have h' := app_no h (fun e => nomatch e)
    rcases args_get ha h' with ⟨d', v, e, hv, g⟩ | ⟨d', a, e, _⟩
    · cases e
      exact ⟨v, start_get hv, g⟩
    · cases e
  · have : ∃ d', ∃ a, (Sl.mu t d = .mu false d' ∨ Sl.lk t d = .mu false d') ∧ vs[i]? = some (.ref a) ∧ a ∈ S ∧ Cont K S H a d' := by
      rcases h with h | h
      · obtain ⟨d', a, e, _, hv, hS, hc⟩ := mu h rfl
        exact ⟨d', a, .inl e, hv, hS, hc⟩
      · obtain ⟨d', a, e, _, hv, hS, hc⟩ := mu h rfl
        exact ⟨d', a, .inr e, hv, hS, hc⟩
    obtain ⟨d', a, e, hv, hS, hc⟩ := this
    rcases e with e | e
    · cases e
      exact ⟨a, start_get hv, hS, hc, fun z => nomatch z⟩
    · cases e
  · obtain ⟨d1, a1, e1, p1, v1, _⟩ := mu h1 m1
    obtain ⟨d2, a2, e2, p2, v2, _⟩ := mu h2 m2
    rw [start_get v1] at q1
    rw [start_get v2] at q2
    cases q1
    cases q2
    exact args_apart ha hn hij p1 p2 v1 v2
/-- what comes back of the lent slots -/
theorem outs_ok {T : List Addr} {σ' : L2.St} {ρ' : Rho} : ∀ {as : Rho} {vs : List V} {io : List Bool} {o : Nat}, ArgsOk K S H as vs → argOk io as = true → (∀ (i : Nat) (d : PyData) (a : Addr), as[i]? = some (Sl.mu false d) → vs[i]? = some (V.ref a) → σ'[o + i]? = some (some (.ref a)) ∧ ∃ s, ρ'[o + i]? = some s ∧ isIo s = true) →
    (∀ (i : Nat) (t : Bool) (d : PyData), ρ'[i]? = some (Sl.mu t d) → ∃ a, σ'[i]? = some (some (.ref a)) ∧ Cont K T H' a d) → outOk io (ρ'.drop o) = true → OutsOk K T H' as ((ρ'.drop o).take io.length) vs
  | [], vs, io, o, ha, hio, hk, hm, ho => trivial
  | .sh d :: r, vs, io, o, ha, hio, hk, hm, ho => by
    obtain ⟨v, q, e, _, h2⟩ := ha
    subst e
    cases io with
    | nil => simp only [argOk] at hio; cases hio
    | cons b bs =>
      cases b with
      | true => simp only [argOk] at hio; cases hio
      | false =>
        simp only [argOk] at hio
        cases hd : ρ'.drop o with
        | nil => rw [hd] at ho; simp only [outOk] at ho; cases ho
        | cons x xs =>
          rw [hd] at ho
          simp only [outOk] at ho
          have hd1 : ρ'.drop (o + 1) = xs := by
            rw [← List.drop_drop, hd]
            rfl
          rw [List.length_cons, List.take_succ_cons]
          show OutsOk K T H' r (xs.take bs.length) q
          rw [← hd1]
          refine outs_ok (o := o + 1) h2 hio (fun i d a h1 h3 => ?_) hm (by rw [hd1]; exact ho)
          have := hk (i + 1) d a (by simpa using h1) (by simpa using h3)
          rw [show o + 1 + i = o + (i + 1) by omega]
          exact this
  | .mu false d :: r, vs, io, o, ha, hio, hk, hm, ho => by
    obtain ⟨a, q, e, _, h2⟩ := ha
    subst e
    cases io with
    | nil => simp only [argOk] at hio; cases hio
    | cons b bs =>
      cases b with
      | false => simp only [argOk] at hio; cases hio
      | true =>
        simp only [argOk] at hio
        cases hd : ρ'.drop o with
        | nil => rw [hd] at ho; simp only [outOk] at ho; cases ho
        | cons x xs =>
          rw [hd] at ho
          have hx : ρ'[o]? = some x := by
            have := List.getElem?_drop (xs := ρ') (i := o) (j := 0)
            rw [hd] at this
            simpa using this.symm
          obtain ⟨s1, s2, s3, s4⟩ := hk 0 d a rfl rfl
          rw [Nat.add_zero] at s1 s3
          rw [hx] at s3
          cases s3
          have hd1 : ρ'.drop (o + 1) = xs := by
            rw [← List.drop_drop, hd]
            rfl
          cases x with
          | mu t d' =>
            cases t with
            | true => cases s4
            | false =>
              simp only [outOk] at ho
              rw [List.length_cons, List.take_succ_cons]
              obtain ⟨a', ha', hc⟩ := hm o false d' hx
              rw [s1] at ha'
              cases ha'
              refine ⟨hc, ?_⟩
              rw [← hd1]
              refine outs_ok (o := o + 1) h2 hio (fun i d a h1 h3 => ?_) hm (by rw [hd1]; exact ho)
              have := hk (i + 1) d a (by simpa using h1) (by simpa using h3)
              rw [show o + 1 + i = o + (i + 1) by omega]
              exact this
          | no => simp only [outOk] at ho; cases ho
          | sh _ => simp only [outOk] at ho; cases ho
          | lk _ _ => simp only [outOk] at ho; cases ho
  | .mu true d :: r, vs, io, o, ha, hio, hk, hm, ho => ha.elim
  | .no :: r, vs, io, o, ha, hio, hk, hm, ho => ha.elim
  | .lk _ _ :: r, vs, io, o, ha, hio, hk, hm, ho => ha.elim
theorem argOk_len : ∀ {io : List Bool} {as : Rho}, argOk io as = true → as.length = io.length
  | [], [], _ => rfl
  | [], _ :: _, h => by simp only [argOk] at h; cases h
  | true :: bs, as, h => by
    cases as with
    | nil => simp only [argOk] at h; cases h
    | cons x r =>
      cases x with
      | mu t d =>
        cases t with
        | true => simp only [argOk] at h; cases h
        | false => simp only [argOk] at h; rw [List.length_cons, List.length_cons, argOk_len h]
      | _ => simp only [argOk] at h; cases h
  | false :: bs, as, h => by
    cases as with
    | nil => simp only [argOk] at h; cases h
    | cons x r =>
      cases x with
      | sh d => simp only [argOk] at h; rw [List.length_cons, List.length_cons, argOk_len h]
      | _ => simp only [argOk] at h; cases h
end
end MP
end
section
set_option Elab.async false
set_option linter.all false
set_option autoImplicit false
set_option maxRecDepth 100000
set_option maxHeartbeats 4000001
namespace MP
open PySem.Spec PyProof.Rows L2 PySem

/-- a def: its text, its meaning -/
structure DD where
  name : Str
  N : List Str
  ps : List Str
  params : Arguments
  scope : Scope
  body : List Stmt
  m : MDef
structure Pg where
  defs : List DD
  glob : List (Str × PyData)
  free : List Str
  excs : List Str
  wh : List DD := []
def Pg.T (p : Pg) (f : Str) : Option MDef := (p.defs.find? fun d => d.name == f).map (·.m)
def Pg.cc (p : Pg) (d : DD) : Cc := ⟨d.N, d.scope.names, fun x => decide (d.scope.names.lookup x = some .local) || decide (d.scope.names.lookup x = some .cell), p.glob, p.free, p.defs.map fun d => (d.name, d.ps.length), p.excs, true, p.wh.map (·.name)⟩
def chD (p : Pg) (d : DD) : Bool :=
  ((decide (d.scope.kind = .function) && (decide (d.scope.isCoroutine = false) && decide (d.scope.isGenerator = false))) && ((decide d.N.Nodup && decide (d.N.take d.ps.length = d.ps)) &&
    ((d.ps.all fun x => decide (d.scope.names.lookup x = some .local) || decide (d.scope.names.lookup x = some .cell)) && d.scope.names.all fun y => decide (y.2 ≠ .free)))) &&
  ((decide (d.m.io.length = d.ps.length) && decide (d.m.ns = d.N.length)) && chSs (p.cc d) d.m.body d.body)
theorem chD_scope {p : Pg} {d : DD} (h : chD p d = true) : FnScope d.N d.ps d.scope ∧ d.m.io.length = d.ps.length ∧ d.m.ns = d.N.length ∧ chSs (p.cc d) d.m.body d.body = true := by
  unfold chD at h
  simp only [Bool.and_eq_true, decide_eq_true_eq, List.all_eq_true, Bool.or_eq_true] at h
  obtain ⟨⟨⟨h1, h2, h3⟩, ⟨h4, h5⟩, h6, h7⟩, ⟨h8, h9⟩, h10⟩ := h
  exact ⟨⟨h1, h2, h3, h4, h5, h6, h7⟩, h8, h9, h10⟩
section
variable {base : Heap} {P : Program} {w : World} {K : PySem.W.Frag} {mg : Str → Option Value}
/-- what stands behind the top -/
structure PgOk (K : PySem.W.Frag) (mg : Str → Option Value) (p : Pg) : Prop where
  nd : (p.defs.map (·.name)).Nodup
  chk : ∀ d, d ∈ p.defs → chD p d = true
  fn : ∀ d, d ∈ p.defs → ∃ f fd, mg d.name = some (.ref f) ∧ FunD K d.name d.name d.params d.body d.scope [] [] f fd ∧ Binds K fd d.ps []
  glob : ∀ x d, (x, d) ∈ p.glob → ∃ v u, mg x = some u ∧ RelV v u ∧ (∀ S H, Good K S H d v) ∧ ∀ a, v = .ref a → ∃ o, K.lookup a = some o ∧ o.dict = none
  free : ∀ x, x ∈ p.free → mg x = none
  exc : ∀ x, x ∈ p.excs → ExcF K mg x
  wk : p.wh ≠ [] → WhK K mg
  wfn : ∀ d, d ∈ p.wh → (∃ x o, (d.N = [x, o] ∧ d.ps = [x]) ∧ chWh x o d.scope d.body = true) ∧ ∃ f fd, mg d.name = some (.ref f) ∧ FunD K d.name d.name d.params d.body d.scope [] [] f fd ∧ Binds K fd d.ps []
theorem T_of {p : Pg} {d : DD} (nd : (p.defs.map (·.name)).Nodup) (h : d ∈ p.defs) : p.T d.name = some d.m := by
  unfold Pg.T
  have : ∀ {l : List DD}, (l.map (·.name)).Nodup → d ∈ l → l.find? (fun x => x.name == d.name) = some d := by
    intro l
    induction l with
    | nil => intro _ h; cases h
    | cons a r ih =>
      intro nd h
      rw [(List.map_cons), List.nodup_cons] at nd
      rw [List.find?_cons]
      rcases List.mem_cons.1 h with e | e
      · subst e
        simp
      · have ne : (a.name == d.name) = false := by
          cases q : a.name == d.name with
          | false => rfl
          | true =>
            have := eq_of_beq q
            exact absurd (List.mem_map.mpr ⟨d, e, this.symm⟩) nd.1
        rw [ne]
        exact ih nd.2 e
  rw [this nd h]
  rfl
/-- EVERY DEF KEEPS WHAT run SAYS -/
theorem defs_ok {p : Pg} (H : PgOk K mg p) : ∀ k, ∀ d, d ∈ p.defs → ∃ f fd, mg d.name = some (.ref f) ∧ FunD K d.name d.name d.params d.body d.scope [] [] f fd ∧ Binds K fd d.ps [] ∧ FnOk P w K mg base (L2.CX P w) k f fd d.ps (spV K (run p.T k) d.name d.ps.length)
  | 0, d, hd => by
    obtain ⟨f, fd, hm, F, hb⟩ := H.fn d hd
    exact ⟨f, fd, hm, F, hb, fun vs H Q E h => h.1, fun A outer s H args us vs Q E hr he hbd hv h => by
      obtain ⟨_, S, as, _, _, _, q⟩ := h
      exact q.elim⟩
  | k + 1, d, hd => by
    obtain ⟨f, fd, hm, F, hb⟩ := H.fn d hd
    obtain ⟨sc, hio, hns, hch⟩ := chD_scope (H.chk d hd)
    refine ⟨f, fd, hm, F, hb, F.ok sc (fun vs H Q E h => h.1) fun cdv A outer s H0 vs Q E hr hsp => ?_⟩
    have G : GX (cxOf (L2.CX P w) P w K mg base d.N d.name d.scope f cdv A outer s H0 E) (p.cc d) (run p.T k) (fun cls d _ H => E cls d H) k := by
      refine ⟨rfl, sc.nd, rfl, sc.kind, rfl, hr, takes_of rfl rfl rfl rfl, passes_of rfl, fun x hx => ⟨?_, .inl rfl⟩, H.free, H.glob, fun g n hg => ?_, H.exc, fun _ => ⟨rfl, rfl⟩, fun g hg => ?_⟩
      · have hx : (decide (d.scope.names.lookup x = some .local) || decide (d.scope.names.lookup x = some .cell)) = true := hx
        rw [Bool.or_eq_true, decide_eq_true_eq, decide_eq_true_eq] at hx
        exact hx
      · obtain ⟨d', hd', e⟩ := List.mem_map.mp hg
        cases e
        obtain ⟨f', fd', h1, h2, h3, h4⟩ := defs_ok H k d' hd'
        exact ⟨f', fd', d'.ps, rfl, h1, h2.kp, h3, h4⟩
      · obtain ⟨d', hd', e⟩ := List.mem_map.mp hg
        subst e
        have wk := H.wk fun e => by rw [e] at hd'; cases hd'
        obtain ⟨⟨x, o, ⟨eN, ep⟩, ck⟩, f', fd', h1, h2, h3⟩ := H.wfn d' hd'
        rw [ep] at h3
        exact ⟨wk, f', fd', x, h1, h2.kp, h3, fun e n q m hn z fl => which_ok h2 ck wk m hn z fl⟩
    refine ⟨_, chSs_ok (om := d.m.om) d.m.body hch G H0, ?_⟩
    obtain ⟨hlen, S, as, hdom, hargs, hnd, hcase⟩ := hsp
    have hrun : run p.T (k + 1) d.name as = runD (run p.T k) d.m as := by
      show (match p.T d.name with | some m => runD (run p.T k) m as | none => .st) = _
      rw [T_of H.nd hd]
    rw [hrun] at hcase
    unfold runD at hcase
    by_cases hao : argOk d.m.io as = true
    · rw [if_pos hao] at hcase
      have hal : as.length = d.m.io.length := argOk_len hao
      have hvl : vs.length = as.length := args_len hargs
      have hps : d.ps.length ≤ d.N.length := by
        have := congrArg List.length sc.pre
        rw [List.length_take] at this
        omega
      have E0 : EnvOk K H0 S (L2.start d.N vs) H0 (as ++ List.replicate (d.m.ns - d.m.io.length) .no) := env_start hdom hargs hnd (by omega)
      refine ⟨S, _, E0, ?_⟩
      -- the lent slots, wherever the body ends
      have keepIo : ∀ {σ' S' H' ρ'}, Evo K H0 (L2.start d.N vs) S H0 (as ++ List.replicate (d.m.ns - d.m.io.length) .no) σ' S' H' ρ' → (∀ a o, H0 a = some o → a ∉ ioAs as vs → H' a = some o) := fun {σ' S' H' ρ'} ev a o h n => by
        refine ev.keep a o h fun ⟨i, t, d', h1, h2⟩ => n ?_
        have h3 := app_no h1 (fun e => nomatch e)
        rcases args_get hargs h3 with ⟨_, _, e, _⟩ | ⟨d2, b, e, hv, _, _, hmem⟩
        · cases e
        · rw [start_get hv] at h2
          cases h2
          exact hmem
      have outs : ∀ {σ' S' H' ρ'} {T : List Addr}, Evo K H0 (L2.start d.N vs) S H0 (as ++ List.replicate (d.m.ns - d.m.io.length) .no) σ' S' H' ρ' → EnvOk K H0 T σ' H' ρ' → outOk d.m.io ρ' = true → OutsOk K T H' as (ρ'.take d.m.io.length) vs := fun {σ' S' H' ρ' T} ev E' ho => by
        have := outs_ok (T := T) (H' := H') (σ' := σ') (ρ' := ρ') (o := 0) hargs hao (fun i d' a h1 h2 => ?_) (fun i t d' h => ?_) (by rw [List.drop_zero]; exact ho)
        · rw [List.drop_zero] at this
          exact this
        · have hi : i < as.length := (List.getElem?_eq_some_iff.mp h1).1
          have h3 : (as ++ List.replicate (d.m.ns - d.m.io.length) .no)[i]? = some (.mu false d') := by
            rw [List.getElem?_append_left hi]
            exact h1
          obtain ⟨q1, q2⟩ := ev.io i _ h3 rfl
          rw [start_get h2] at q1
          rw [Nat.zero_add]
          exact ⟨q1, q2⟩
        · obtain ⟨a, ha, _, hc, _⟩ := E'.mu i t d' (.inl h)
          exact ⟨a, ha, hc⟩
      have sub : ∀ {σ' S' H' ρ'}, Evo K H0 (L2.start d.N vs) S H0 (as ++ List.replicate (d.m.ns - d.m.io.length) .no) σ' S' H' ρ' → ∀ a, a ∈ S → a ∈ S' := fun ev a m => ev.old a m (hdom a m)
      have outLess : ∀ {T T' : List Addr} {H' : Hp} {as outs : Rho} {vs : List V}, (∀ a, a ∈ T' → a ∈ T) → OutsOk K T H' as outs vs → OutsOk K T' H' as outs vs := by
        intro T T' H' as
        induction as with
        | nil => intro outs vs _ _; trivial
        | cons x r ih =>
          intro outs vs hs h
          cases x with
          | mu t d0 =>
            cases outs with
            | nil => exact h.elim
            | cons y ys =>
              cases y with
              | mu t' d' =>
                cases vs with
                | nil => exact h.elim
                | cons v q =>
                  cases v with
                  | ref a => exact ⟨Cont.chg (Chg.less hs) (fun h => h) h.1, ih hs h.2⟩
                  | _ => exact h.elim
              | _ => exact h.elim
          | sh d0 =>
            cases outs with
            | nil => exact h.elim
            | cons y ys =>
              cases vs with
              | nil => exact h.elim
              | cons v q => exact ih hs h
          | no => exact h.elim
          | lk _ _ => exact h.elim
      cases hx : xs (run p.T k) d.m.om d.m.body (as ++ List.replicate (d.m.ns - d.m.io.length) .no) with
      | st => rw [hx] at hcase; exact hcase.elim
      | ex c ρ' =>
        rw [hx] at hcase
        intro σ' S' H' ev
        simp only at hcase
        by_cases ho : outOk d.m.io ρ' = true
        · rw [if_pos ho] at hcase
          exact hcase H' (keepIo ev) (outLess (sub ev) (outs ev ev.env ho))
        · rw [if_neg ho] at hcase
          exact hcase.elim
      | ok fl ρ' =>
        rw [hx] at hcase
        cases fl with
        | nx =>
          intro σ' S' H' ev
          simp only at hcase
          by_cases ho : outOk d.m.io ρ' = true
          · rw [if_pos ho] at hcase
            exact hcase H' .non (keepIo ev) (outLess (sub ev) (outs ev ev.env ho)) (by simp only [Good]) fun z => nomatch z
          · rw [if_neg ho] at hcase
            exact hcase.elim
        | rt dt fr =>
          intro σ' S' H' v ev g fe
          simp only at hcase
          by_cases ho : outOk d.m.io ρ' = true
          · rw [if_pos ho] at hcase
            refine hcase H' v (keepIo ev) (outLess (sub ev) (outs ev ev.env ho)) (g.less (sub ev)) fun z => ?_
            obtain ⟨⟨q, e, h1, h2, h3⟩, h4⟩ := fe z
            have less : ∀ a, a ∈ q :: S → a ∈ q :: S' := fun a m => by
              rcases List.mem_cons.1 m with e | e
              · exact (e ▸ List.mem_cons_self)
              · exact List.mem_cons_of_mem _ (sub ev a e)
            refine ⟨⟨q, e, h1, fun m => hdom q m h1, Cont.chg (Chg.less less) (fun h => h) h3⟩, fun q' e' => ?_⟩
            rw [e] at e'
            cases e'
            exact outLess less (outs ev (h4 q e) ho)
          · rw [if_neg ho] at hcase
            exact hcase.elim
    · rw [if_neg hao] at hcase
      exact hcase.elim
end
end MP
end
section
set_option Elab.async false
set_option linter.all false
set_option autoImplicit false
set_option maxRecDepth 100000
set_option maxHeartbeats 4000001
/-! PROVENANCE of MiniHead: parts of this text began as rows of the library's HandS/HeadEnd and were then rewritten; the plan is the library's -/
namespace MP
open PySem.Spec PyProof.Rows L2 PySem

def DD.toD (d : DD) : He.DefD := ⟨(d.name, none), d.name, d.name, d.params, d.body, d.scope, [], []⟩
def dvOf : PyData → Option He.Dv
  | .none => some .non
  | .bool b => some (.bl b)
  | .int i => some (.int i)
  | .str x => some (.str x)
  | _ => none
def dvsOf : List PyData → Option (List He.Dv)
  | [] => some []
  | d :: r => match dvOf d, dvsOf r with
    | some v, some vs => some (v :: vs)
    | _, _ => none
def noD (K : PySem.W.Frag) (x : Str) : Bool := match K.lookup (He.ga K x) with
  | some o => o.dict.isNone
  | none => false
theorem noD_ok {K : PySem.W.Frag} {x : Str} (h : noD K x = true) : ∃ o, K.lookup (He.ga K x) = some o ∧ o.dict = none := by
  unfold noD at h
  split at h
  · rename_i o e
    exact ⟨o, e, Option.isNone_iff_eq_none.mp h⟩
  · cases h
def gOk (K : PySem.W.Frag) (x : Str) : PyData → Bool
  | .int i => (He.Fa.int x i).ok K
  | .str z => (He.Fa.str x z).ok K
  | .tuple ds => (match dvsOf ds with
    | some vs => ((He.Fa.glo x).ok K && noD K x) && He.tupB K x vs
    | none => false)
  | _ => false
theorem dv_good {K : PySem.W.Frag} {S : List Addr} {H : Hp} {d : PyData} {v : He.Dv} (h : dvOf d = some v) : Good K S H d (v.v K) := by
  cases d <;> simp only [dvOf] at h <;> first | (cases h; done) | (cases h; simp only [Good, He.Dv.v])
theorem dvs_good {K : PySem.W.Frag} {S : List Addr} {H : Hp} : ∀ {ds : List PyData} {vs : List He.Dv}, dvsOf ds = some vs → GoodL K S H ds (vs.map (He.Dv.v K))
  | [], vs, h => by cases h; exact .nil
  | d :: r, vs, h => by
    simp only [dvsOf] at h
    cases h1 : dvOf d with
    | none => rw [(h1)] at h; cases h
    | some v =>
      cases h2 : dvsOf r with
      | none => rw [(h1), h2] at h; cases h
      | some vs' =>
        rw [h1, h2] at h
        cases h
        exact .cons (dv_good h1) (dvs_good h2)
def Pg.all (p : Pg) : List DD := p.defs ++ p.wh
def pgCk (p : Pg) (K : PySem.W.Frag) : Bool := (p.wh.isEmpty || whCk K) && ((p.free.all fun x => (He.Fa.free x).ok K) && ((p.excs.all fun x => (He.Fa.glo x).ok K && (He.Fa.exc x).ok K) && ((p.glob.all fun q => gOk K q.1 q.2) && p.all.all fun d => (He.Fa.glo d.name).ok K)))
def obsX (p : Pg) (K : PySem.W.Frag) : He.AlD := (pgCk p K && p.all.all fun d => d.toD.ok K, p.all.map fun d => He.fnW K d.toD.at_)
def valX (p : Pg) : He.AlD := (true, p.all.map fun d => d.toD.val)
/-- a def of the wh kind, checked -/
def chW (d : DD) : Bool := match d.N, d.ps with
  | [x, o], [y] => decide (y = x) && chWh x o d.scope d.body
  | _, _ => false
theorem chW_ok {d : DD} (h : chW d = true) : ∃ x o, (d.N = [x, o] ∧ d.ps = [x]) ∧ chWh x o d.scope d.body = true := by
  unfold chW at h
  split at h
  · rename_i x o y e1 e2
    rw [(Bool.and_eq_true), decide_eq_true_eq] at h
    obtain ⟨rfl, h2⟩ := h
    exact ⟨y, o, ⟨e1, e2⟩, h2⟩
  · cases h
def SaysX (p : Pg) (K : PySem.W.Frag) : Prop := obsX p K = valX p
def obsXG (n : Nat) (p : Pg) (g : Addr → Option Obj) : He.AlD := obsX p (He.frG g (He.asD g n))
def hookX (n : Nat) (p : Pg) : PySem.W.Hook where
  α := He.AlD
  obs := fun s => obsXG n p s.heap.get?
  val := fun _ => valX p
  says := fun _ h => ∃ K : PySem.W.Frag, K.In h ∧ SaysX p K
  of := fun _ _ e => ⟨_, He.frG_in, e⟩
  keeps := fun _ _ _ k0 k => k0.imp fun _ q => ⟨q.1.keeps k, q.2⟩
theorem obsXG_eq {n : Nat} {p : Pg} {g : Addr → Option Obj} {s : Shared} (h : ∀ a, g a = s.heap.get? a) : obsXG n p g = (hookX n p).obs s := by
  have e : g = s.heap.get? := (funext h)
  rw [e] <;> rfl
def BindOk (d : DD) : Prop := ∀ (kV doc pm : Value) (an : Option Addr) (cdv ct : Value) (us : List Value), us.length = d.ps.length → bindArgs (PySem.W.fnOf d.name d.name d.params d.body d.scope .none kV doc pm an cdv ct) ⟨us, []⟩ = pure (d.ps.zip us)
def BindAll : List DD → Prop
  | [] => True
  | d :: r => BindOk d ∧ BindAll r
theorem bindAll_of : ∀ {ds : List DD} {d : DD}, BindAll ds → d ∈ ds → BindOk d
  | _ :: _, d, h, m => by
    rcases List.mem_cons.1 m with e | e
    · rw [e]; exact h.1
    · exact bindAll_of h.2 e
section
variable {K : PySem.W.Frag} {h : Heap} {mg : Str → Option Value} {p : Pg}
theorem says_def (c : SaysX p K) {d : DD} (hd : d ∈ p.all) : ∃ fd, FunD K d.name d.name d.params d.body d.scope [] [] (He.ga K d.name) fd := by
  have c2 := (He.ba (show (pgCk p K && p.all.all fun d => d.toD.ok K) = true from congrArg (fun z : He.AlD => z.1) c)).2
  have e : p.all.map (fun d => He.fnW K d.toD.at_) = p.all.map (fun d => d.toD.val) := congrArg (fun z : He.AlD => z.2) c
  obtain ⟨i, hi, e1⟩ := List.getElem_of_mem hd
  have e2 : (p.all.map (fun d => He.fnW K d.toD.at_))[i]? = (p.all.map (fun d => d.toD.val))[i]? := by rw [e]
  rw [List.getElem?_map, List.getElem?_map, List.getElem?_eq_getElem hi, e1] at e2
  exact He.DefD.funD (d := d.toD) (Option.some.inj e2) (List.all_eq_true.mp c2 d hd)
theorem pg_ok (X : K.In h) (G : h.Ns mainGlobals mg) (c : SaysX p K) (nd : (p.defs.map (·.name)).Nodup) (chk : ∀ d, d ∈ p.defs → chD p d = true) (cw : ∀ d, d ∈ p.wh → chW d = true) (b : BindAll p.all) : PgOk K mg p := by
  have c1 := (He.ba (show (pgCk p K && p.all.all fun d => d.toD.ok K) = true from congrArg (fun z : He.AlD => z.1) c)).1
  unfold pgCk at c1
  simp only [Bool.and_eq_true, List.all_eq_true] at c1
  obtain ⟨k0, k1, k2, k3, k4⟩ := c1
  have def_ : ∀ d, d ∈ p.all → ∃ f fd, mg d.name = some (.ref f) ∧ FunD K d.name d.name d.params d.body d.scope [] [] f fd ∧ Binds K fd d.ps [] := fun d hd => by
    obtain ⟨fd, F⟩ := says_def c hd
    exact ⟨_, fd, He.glo_ok X G (k4 d hd), F, F.bindsN (bindAll_of b hd)⟩
  refine ⟨nd, chk, fun d hd => def_ d (List.mem_append_left _ hd), fun x d hd => ?_, fun x hx => He.free_ok X G (k1 x hx), fun x hx => ?_, fun ne => ?_, fun d hd => ⟨chW_ok (cw d hd), def_ d (List.mem_append_right _ hd)⟩⟩
  · have := k3 (x, d) hd
    unfold gOk at this
    split at this
    · rename_i i ed
      have ed : d = .int i := ed
      subst ed
      obtain ⟨t, e⟩ := He.int_ok X G this
      refine ⟨.int i, _, e, ⟨t, rfl⟩, fun S H => ?_, fun a z => nomatch z⟩
      show Good K S H (.int i) (.int i)
      simp only [Good]
    · rename_i z ed
      have ed : d = .str z := ed
      subst ed
      obtain ⟨t, e⟩ := He.str_ok X G this
      refine ⟨.str z, _, e, ⟨t, rfl⟩, fun S H => ?_, fun a z => nomatch z⟩
      show Good K S H (.str z) (.str z)
      simp only [Good]
    · rename_i ds ed
      have ed : d = .tuple ds := ed
      subst ed
      split at this
      · rename_i vs hvs
        rw [Bool.and_eq_true, Bool.and_eq_true] at this
        refine ⟨.ref (He.ga K x), _, He.glo_ok X G this.1.1, rfl, fun S H => ?_, fun a ea => by cases ea; exact noD_ok this.1.2⟩
        show Good K S H (.tuple ds) _
        simp only [Good]
        exact ⟨_, _, rfl, He.tupB_ok this.2 H, dvs_good hvs⟩
      · cases this
    · cases this
  · obtain ⟨h1, h2⟩ := k2 x hx
    obtain ⟨e1, e2, e3, e4⟩ := He.exc_ok h2
    exact ⟨e1, He.glo_ok X G h1, e2, e3, e4⟩
  · rw [Bool.or_eq_true] at k0
    rcases k0 with z | z
    · exact absurd (List.isEmpty_iff.mp z) ne
    · exact whCk_ok X G z
end
/-- the law's def stands at fa and keeps its promise: at a script of at most n ints it gives True -/
def Stands (P : Program) (n k : Nat) (x : Str) (w : World) (mg : Str → Option Value) (fa : Addr) (h : Heap) : Prop :=
  ∃ (K : PySem.W.Frag) (fd : FuncData) (sp : Sp), (K.In h ∧ ∀ (s : Shared) (u : Value), BindsTo s fd ⟨[u], []⟩ [(x, u)]) ∧
    (∀ (H : Hp) (a : Addr) (ns : List Int), ns.length ≤ n → Ls K H a (ns.map V.int) → sp [.ref a] H (fun v _ => v = .bl true) fun _ _ _ => False) ∧
    ∀ base : Heap, K.In base → base.Ns mainGlobals mg → FnOk P w K mg base (L2.CX P w) k fa fd [x] sp
theorem walk_ofX {l : PySem.W.OpenLaw} {n k : Nat} {q : Program} {loose : List Str} {XP : (Str → Option Value) → Heap → Prop} {YP : World → Heap → Prop} {d : DefRec} {x : Str} (most : l.most = some n) (line : n ≤ sizeLine) (noDef : d.params.defaults = []) (room : Room k callerA)
    (F : ∀ w mg fa h, YP w h → Heap.Ns h mainGlobals mg → mg d.name = some (.ref fa) → Stands l.prog n k x w mg fa h) : PySem.W.WalkO q loose XP YP l.row.toRowW d [] fun f vs => PySem.call f vs :=
  Att.attach_call most noDef fun w _ _ mg _ fa _ _ _ _ a vs ns G Y _ _ _ name obj nums short hg => by
    obtain ⟨K, fd, sp, ⟨kin, binds⟩, gives, ok⟩ := F w mg fa _ Y G.T.g name
    refine law_call kin G.T.g G.T.b G.T.builtins G.T.nolimit hg obj nums (Nat.le_trans short line) room ok binds (fun H _ sq => gives H a ns short ?_) fun H e s' z => ?_
    · rcases sq with z | ⟨_, _, _, lk, _, _, dat, size, vals⟩
      · exact .inl z
      · have same := (kin _ _ lk).symm.trans obj
        cases same; cases dat
        exact .inr ⟨vs, _, lk, by simpa using size, vals⟩
    · obtain ⟨_, _, _, _, _, _, _, _, _, _, _, _, no⟩ := z
      exact no
/-- THE END: the law's def gives True at every script -/
theorem law_of {p : Pg} {k : Nat} {d : DD} (hd : d ∈ p.defs) (hx : d.ps = [("script" : Str)]) (hrun : ∀ ns : List Int, ns.length ≤ 63 → ∃ fr outs, run p.T k d.name [.sh (.list (ns.map .int))] = .ok (.bool true) fr outs)
    {K : PySem.W.Frag} {H : Hp} {a : Addr} {ns : List Int} (hl : ns.length ≤ 63) (hS : Ls K H a (ns.map V.int)) : spV K (run p.T k) d.name 1 [.ref a] H (fun v _ => v = .bl true) fun _ _ _ => False := by
  obtain ⟨fr, outs, e⟩ := hrun ns hl
  refine ⟨rfl, [], [.sh (.list (ns.map .int))], fun a m => (by cases m), ⟨.ref a, [], rfl, ?_, rfl⟩, List.nodup_nil, ?_⟩
  · simp only [Good]
    refine ⟨a, _, rfl, hS.imp (fun h => ⟨fun m => (by cases m), h⟩) (fun h => h), ?_⟩
    clear hS hl e
    induction ns with
    | nil => exact .nil
    | cons n r ih => exact .cons (by simp only [Good]) ih
  · rw [e]
    intro H' v _ _ g _
    simpa only [Good] using g
theorem funD_uniq {K : PySem.W.Frag} {x q x' q' : Str} {pr pr' : Arguments} {b b' : List Stmt} {sc sc' : Scope} {dv dv' : List V} {kw kw' : List (Str × V)} {f : Addr} {fd fd' : FuncData} (F : FunD K x q pr b sc dv kw f fd) (F' : FunD K x' q' pr' b' sc' dv' kw' f fd') : fd = fd' := by
  obtain ⟨_, _, _, _, _, _, _, _, _, _, _, l1, _⟩ := F.ex
  obtain ⟨_, _, _, _, _, _, _, _, _, _, _, l2, _⟩ := F'.ex
  rw [l1] at l2
  injection l2 with l2
  injection l2 with _ _ l2 _
  injection l2
theorem law_F {P : Program} {p : Pg} {k : Nat} {d : DD} {K : PySem.W.Frag} {h : Heap} {mg : Str → Option Value} {fa : Addr} {w : World} (hd : d ∈ p.defs) (hx : d.ps = [("script" : Str)]) (hrun : ∀ ns : List Int, ns.length ≤ 63 → ∃ fr outs, run p.T k d.name [.sh (.list (ns.map .int))] = .ok (.bool true) fr outs)
    (nd : (p.defs.map (·.name)).Nodup) (chk : ∀ d, d ∈ p.defs → chD p d = true) (cw : ∀ d, d ∈ p.wh → chW d = true) (bnd : BindAll p.all) (KX : K.In h) (G : h.Ns mainGlobals mg) (c : SaysX p K) (hmg : mg d.name = some (.ref fa)) :
    Stands P 63 k "script" w mg fa h := by
  have PO := pg_ok KX G c nd chk cw bnd
  obtain ⟨fd, F⟩ := says_def c (List.mem_append_left _ hd)
  have b := FunD.bindsA (ps := d.ps) F (bindAll_of bnd (List.mem_append_left _ hd))
  rw [hx] at b
  refine ⟨K, fd, spV K (run p.T k) d.name 1, ⟨KX, fun s u => b s [u] rfl⟩, fun H a ns hl hS => law_of hd hx hrun hl hS, fun base _ _ => ?_⟩
  obtain ⟨f', fd', h1, h2, h3, h4⟩ := defs_ok (P := P) (w := w) (base := base) PO k d hd
  rw [hx] at h4
  rw [hmg] at h1
  cases h1
  have ef : He.ga K d.name = fa := by
    obtain ⟨f2, fd2, e2, F2, _⟩ := PO.fn d hd
    have c1 := (He.ba (show (pgCk p K && p.all.all fun d => d.toD.ok K) = true from congrArg (fun z : He.AlD => z.1) c)).1
    unfold pgCk at c1
    simp only [Bool.and_eq_true, List.all_eq_true] at c1
    have := He.glo_ok KX G (c1.2.2.2.2 d (List.mem_append_left _ hd))
    rw [hmg] at this
    cases this
    rfl
  rw [ef] at F
  rw [funD_uniq F h2]
  exact h4
end MP
end
section
set_option Elab.async false
set_option linter.all false
set_option maxRecDepth 100000
set_option maxHeartbeats 400001
namespace MP
open PySem
theorem bind_ok {α β : Type} (a : α) (ρ : Rho) (f : α → Rho → R β) : (R.ok a ρ).bind f = f a ρ := rfl
theorem bind_ex {α β : Type} (c : Str) (ρ : Rho) (f : α → Rho → R β) : (R.ex c ρ : R α).bind f = .ex c ρ := rfl
theorem bind_st {α β : Type} (f : α → Rho → R β) : (R.st : R α).bind f = .st := rfl
theorem optB_some {α β : Type} (a : α) (f : α → R β) : optB (some a) f = f a := rfl
theorem optB_none {α β : Type} (f : α → R β) : optB none f = .st := rfl
theorem evOs_nil (ρ : Rho) : evOs [] ρ = .ok [] ρ := rfl
theorem evOs_c (m : Sm) (ms : List Sm) (ρ : Rho) : evOs (m :: ms) ρ = (m.o ρ).bind fun o ρ1 => (evOs ms ρ1).bind fun os ρ2 => .ok (o :: os) ρ2 := rfl
theorem evs_nil (ρ : Rho) : evs [] ρ = .ok [] ρ := rfl
theorem evs_c (m : Sm) (ms : List Sm) (ρ : Rho) : evs (m :: ms) ρ = (m.v ρ).bind fun d ρ1 => (evs ms ρ1).bind fun ds ρ2 => .ok (d.1 :: ds) ρ2 := rfl
theorem evF_nil (ρ : Rho) : evF [] ρ = .ok [] ρ := rfl
theorem evF_c (m : Sm) (ms : List Sm) (ρ : Rho) : evF (m :: ms) ρ = (m.v ρ).bind fun d ρ1 => (evF ms ρ1).bind fun ds ρ2 => .ok (d :: ds) ρ2 := rfl
theorem evAs_nil (ρ : Rho) : evAs [] [] ρ = .ok [] ρ := rfl
theorem evAs_c (m : Sm) (ms : List Sm) (b : Bool) (bs : List Bool) (ρ : Rho) : evAs (m :: ms) (b :: bs) ρ = (m.a b ρ).bind fun o ρ1 => (evAs ms bs ρ1).bind fun os ρ2 => .ok (o :: os) ρ2 := rfl
theorem mk_v (v : Rho → R (PyData × Bool)) (ρ : Rho) : (mk v).v ρ = v ρ := rfl
theorem mk_o (v : Rho → R (PyData × Bool)) (ρ : Rho) : (mk v).o ρ = (v ρ).bind fun d ρ1 => .ok (.val d.1) ρ1 := rfl
theorem mk_a (v : Rho → R (PyData × Bool)) (ρ : Rho) : (mk v).a false ρ = (v ρ).bind fun d ρ1 => .ok (.val d.1) ρ1 := rfl
theorem mk_t (v : Rho → R (PyData × Bool)) (ρ : Rho) : (mk v).t ρ = ((v ρ).bind fun d ρ1 => .ok (Opd.val d.1) ρ1).bind fun o ρ1 => optB ((rdO ρ1 o).bind truth) fun b => .ok b ρ1 := rfl
theorem v_v (i : Nat) (ρ : Rho) (t : Rho → R Bool) : (Sm.mk (valV i) t (some i)).v ρ = valV i ρ := rfl
theorem v_o (i : Nat) (ρ : Rho) (v : Rho → R (PyData × Bool)) (t : Rho → R Bool) : (Sm.mk v t (some i)).o ρ = opdV i ρ := rfl
theorem n_o (ρ : Rho) (v : Rho → R (PyData × Bool)) (t : Rho → R Bool) : (Sm.mk v t none).o ρ = (v ρ).bind fun d ρ1 => .ok (.val d.1) ρ1 := rfl
theorem v_a0 (ρ : Rho) (v : Rho → R (PyData × Bool)) (t : Rho → R Bool) (s : Option Nat) : (Sm.mk v t s).a false ρ = (v ρ).bind fun d ρ1 => .ok (.val d.1) ρ1 := rfl
theorem v_a1 (i : Nat) (ρ : Rho) (v : Rho → R (PyData × Bool)) (t : Rho → R Bool) : (Sm.mk v t (some i)).a true ρ = ioV i ρ := rfl
theorem tst_eq (o : Rho → R Opd) (ρ : Rho) : tst o ρ = (o ρ).bind fun o ρ1 => optB ((rdO ρ1 o).bind truth) fun b => .ok b ρ1 := rfl
theorem xs_nil (cf : CT) (om : List Nat) (ρ : Rho) : xs cf om [] ρ = .ok .nx ρ := rfl
theorem xs_c (cf : CT) (om : List Nat) (s : MS) (r : List MS) (ρ : Rho) : xs cf om (s :: r) ρ = (x1 cf om s ρ).bind fun f ρ1 => match f with
    | .nx => xs cf om r ρ1
    | f => .ok f ρ1 := rfl
theorem run_at {T : Str → Option MDef} {f : Str} {m : MDef} {k : Nat} (h : T f = some m) (as : Rho) : run T (k + 1) f as = runD (run T k) m as := by
  show (match T f with | some m => runD (run T k) m as | none => .st) = _
  rw [h]
theorem sh_int (i : Int) : shaped (.int i) = true := by simp [shaped, PyData.canLay0, PyData.depth]
theorem sh_str (i : Str) : shaped (.str i) = PyData.strOk i := by simp [shaped, PyData.canLay0, PyData.depth]
theorem sh_bool (i : Bool) : shaped (.bool i) = true := by simp [shaped, PyData.canLay0, PyData.depth]
theorem eqv_int (i j : Int) : PyData.eqv (.int i) (.int j) = decide (i = j) := by
  rw [PyData.eqv]
  by_cases h : i = j <;> simp [h]
theorem eqv_str (i j : Str) : PyData.eqv (.str i) (.str j) = decide (i = j) := by
  rw [PyData.eqv]
  by_cases h : i = j <;> simp [h]
theorem pidx_l (xs : List PyData) (i : Int) : primIdx [.list xs, .int i] = nth xs i := rfl
theorem pidx_t (xs : List PyData) (i : Int) : primIdx [.tuple xs, .int i] = nth xs i := rfl
/-! ### one equation each -/
theorem sem_c (cf : CT) (d : PyData) : sem cf (.c d) = mk fun ρ => .ok (d, false) ρ := by simp only [sem]
theorem sem_v (cf : CT) (i : Nat) : sem cf (.v i) = ⟨valV i, tst (opdV i), some i⟩ := by simp only [sem]
theorem sem_g (cf : CT) (x : Str) (d : PyData) : sem cf (.g x d) = mk fun ρ => .ok (d, false) ρ := by simp only [sem]
theorem sem_op (cf : CT) (o : Op) (as : List ME) : sem cf (.op o as) = mk (v_op o (sems cf as)) := by simp only [sem]
theorem sem_ch (cf : CT) (o1 o2 : Op) (a b c : ME) : sem cf (.ch o1 o2 a b c) = mk (v_ch o1 o2 (sem cf a) (sem cf b) (sem cf c)) := by simp only [sem]
theorem sem_sl (cf : CT) (a : ME) (lo hi : List ME) : sem cf (.sl a lo hi) = mk (v_sl (sem cf a) (sems cf lo) (sems cf hi)) := by simp only [sem]
theorem sem_tu (cf : CT) (as : List ME) : sem cf (.tu as) = mk (v_tu (sems cf as)) := by simp only [sem]
theorem sem_li (cf : CT) (as : List ME) : sem cf (.li as) = mk (v_li (sems cf as)) := by simp only [sem]
theorem sem_dn (cf : CT) (t : Bool) : sem cf (.dn t) = mk fun ρ => .ok (.dict (if t then [(.none, .none)] else []), true) ρ := by simp only [sem]
theorem sem_bo (cf : CT) (k : Bool) (as : List ME) : sem cf (.bo k as) = boS k (sems cf as) := by simp only [sem]
theorem sem_nt (cf : CT) (a : ME) : sem cf (.nt a) = ⟨v_nt (sem cf a), t_nt (sem cf a), none⟩ := by simp only [sem]
theorem sem_ie (cf : CT) (c a b : ME) : sem cf (.ie c a b) = ⟨v_ie (sem cf c) (sem cf a) (sem cf b), fun _ => .st, none⟩ := by simp only [sem]
theorem sem_ca (cf : CT) (f : Str) (as : List ME) (io : List Bool) : sem cf (.ca f as io) = mk (v_ca cf f (sems cf as) io) := by simp only [sem]
theorem sems_nil (cf : CT) : sems cf [] = [] := by simp only [sems]
theorem sems_c (cf : CT) (m : ME) (r : List ME) : sems cf (m :: r) = sem cf m :: sems cf r := by simp only [sems]
/-! comprehensions stay folded -/
section
variable (cf : CT) (el : ME) (tg : Tg) (ik : Ik) (ia cd : List ME) (ρ : Rho)
theorem cp_o : (sem cf (.cp el tg ik ia cd)).o ρ = ((sem cf (.cp el tg ik ia cd)).v ρ).bind fun d ρ1 => .ok (.val d.1) ρ1 := by simp only [sem, mk_o, mk_v]
theorem cp_a : (sem cf (.cp el tg ik ia cd)).a false ρ = ((sem cf (.cp el tg ik ia cd)).v ρ).bind fun d ρ1 => .ok (.val d.1) ρ1 := by simp only [sem, mk_a, mk_v]
theorem ls_o : (sem cf (.ls el tg ik ia cd)).o ρ = ((sem cf (.ls el tg ik ia cd)).v ρ).bind fun d ρ1 => .ok (.val d.1) ρ1 := by simp only [sem, mk_o, mk_v]
/-- a turn of a comprehension -/
def cTurn (x : PyData) (ρ : Rho) : R (Option PyData) := turnC tg (sems cf cd) (fun ρ => ((sem cf el).v ρ).bind fun d ρ => .ok d.1 ρ) x ρ
theorem cp_v {os : List Opd} {ρ1 ρ2 ρ3 ρ4 : Rho} {items ys : List PyData} (h1 : evK ik (sems cf ia) ρ = .ok os ρ1) (h2 : itemsI ρ1 ik os = some items) (h3 : wipeR (tgSlots tg) (lockO ρ1 os) = some ρ2) (h4 : compL (cTurn cf el tg cd) items ρ2 = .ok ys ρ3) (h5 : unlockO ρ1 ρ3 os = some ρ4) (h6 : ys.length ≤ big) :
    (sem cf (.cp el tg ik ia cd)).v ρ = .ok (.list ys, true) ρ4 := by
  simp only [sem, mk_v]
  unfold v_cp walkC
  rw [h1, bind_ok, h2, optB_some, h3, optB_some]
  have h4' : compL (turnC tg (sems cf cd) fun ρ => ((sem cf el).v ρ).bind fun d ρ => .ok d.1 ρ) items ρ2 = .ok ys ρ3 := h4
  dsimp only
  rw [h4', bind_ok, if_pos h6]
  simp only [h5, optB_some]
theorem ls_v {os : List Opd} {ρ1 ρ2 ρ3 ρ4 : Rho} {items ys : List PyData} {ss : List Str} (h1 : evK ik (sems cf ia) ρ = .ok os ρ1) (h2 : itemsI ρ1 ik os = some items) (h3 : wipeR (tgSlots tg) (lockO ρ1 os) = some ρ2) (h4 : compL (cTurn cf el tg cd) items ρ2 = .ok ys ρ3) (h5 : unlockO ρ1 ρ3 os = some ρ4) (h6 : asStrs ys = some ss) (h7 : ss.length ≤ 1000) :
    (sem cf (.ls el tg ik ia cd)).v ρ = .ok (.int (dedup ss).length, false) ρ4 := by
  simp only [sem, mk_v]
  unfold v_ls walkC
  rw [h1, bind_ok, h2, optB_some, h3, optB_some]
  have h4' : compL (turnC tg (sems cf cd) fun ρ => ((sem cf el).v ρ).bind fun d ρ => .ok d.1 ρ) items ρ2 = .ok ys ρ3 := h4
  dsimp only
  rw [h4', bind_ok, h6, optB_some, if_pos h7]
  simp only [h5, optB_some]
end
theorem compL_filter {α : Type} {e : α → PyData} {f : PyData → Rho → R (Option PyData)} {ρ : Rho} {c : α → Bool} {g : α → PyData} : ∀ {l : List α}, (∀ x, x ∈ l → f (e x) ρ = .ok (if c x = true then some (g x) else none) ρ) → compL f (l.map e) ρ = .ok ((l.filter c).map g) ρ
  | [], _ => rfl
  | x :: r, h => by
    have ih := compL_filter (l := r) fun y hy => h y (List.mem_cons_of_mem _ hy)
    rw [List.map_cons]
    simp only [compL, h x List.mem_cons_self, ih]
    cases hc : c x with
    | false => simp only [List.filter_cons, hc, Bool.false_eq_true, if_false]
    | true => simp only [List.filter_cons, hc, if_true, List.map_cons]
theorem compL_map {α : Type} {e : α → PyData} {f : PyData → Rho → R (Option PyData)} {ρ : Rho} {g : α → PyData} {l : List α} (h : ∀ x, x ∈ l → f (e x) ρ = .ok (some (g x)) ρ) : compL f (l.map e) ρ = .ok (l.map g) ρ := by
  have := compL_filter (c := fun _ => true) (g := g) (l := l) (f := f) (e := e) (ρ := ρ) fun x hx => by rw [h x hx]; rfl
  have hf : l.filter (fun _ => true) = l := List.filter_eq_self.mpr fun _ _ => rfl
  rw [this, hf]
/-! for stays folded -/
def fTurn (cf : CT) (om : List Nat) (tg : Tg) (b : List MS) (x : PyData) (ρ : Rho) : R Fl := optB (bindTg tg x ρ) fun ρ' => xs cf om b ρ'
theorem x1_for {cf : CT} {om : List Nat} {tg : Tg} {ik : Ik} {ia : List ME} {b : List MS} {ρ ρ1 ρ2 ρ3 : Rho} {os : List Opd} {items : List PyData} (h1 : evK ik (sems cf ia) ρ = .ok os ρ1) (h2 : itemsI ρ1 ik os = some items) (h3 : forL (fTurn cf om tg b) items (lockO ρ1 os) = .ok .nx ρ2) (h4 : unlockO ρ1 ρ2 os = some ρ3) :
    x1 cf om (.forr tg ik ia b) ρ = .ok .nx ρ3 := by
  have e : x1 cf om (.forr tg ik ia b) ρ = (evK ik (sems cf ia) ρ).bind fun os ρ1 => optB (itemsI ρ1 ik os) fun items =>
      match forL (fTurn cf om tg b) items (lockO ρ1 os) with
      | .ok .nx ρ2 => optB (unlockO ρ1 ρ2 os) fun ρ3 => .ok .nx ρ3
      | .ok (.rt d fr) ρ2 => optB (unlockO ρ1 ρ2 os) fun ρ3 => .ok (.rt d fr) ρ3
      | .ex c ρ2 => .ex c ρ2
      | .st => .st := rfl
  rw [e, h1, bind_ok, h2, optB_some, h3]
  simp only [h4, optB_some]
theorem forL_inv {α : Type} {e : α → PyData} {f : PyData → Rho → R Fl} {σ : List α → Rho} : ∀ {l done : List α}, (∀ d x r, done ++ l = d ++ x :: r → f (e x) (σ d) = .ok .nx (σ (d ++ [x]))) → forL f (l.map e) (σ done) = .ok .nx (σ (done ++ l))
  | [], done, _ => by rw [List.append_nil]; rfl
  | x :: r, done, h => by
    rw [List.map_cons]
    show (match f (e x) (σ done) with | .ok .nx ρ1 => forL f (r.map e) ρ1 | o => o) = _
    rw [h done x r rfl]
    have := forL_inv (l := r) (done := done ++ [x]) fun d y q hq => h d y q (by rw [← hq]; simp)
    rw [List.append_assoc, List.singleton_append] at this
    exact this
/-- a loop by a word about what is done -/
theorem forL_pre' {α : Type} {e : α → PyData} {f : PyData → Rho → R Fl} {I : List α → Rho → Prop} : ∀ {l p : List α} {ρ : Rho}, (∀ d x r, p ++ l = d ++ x :: r → ∀ ρ, I d ρ → ∃ ρ', f (e x) ρ = .ok .nx ρ' ∧ I (d ++ [x]) ρ') → I p ρ → ∃ ρ', forL f (l.map e) ρ = .ok .nx ρ' ∧ I (p ++ l) ρ'
  | [], p, ρ, _, h => ⟨ρ, rfl, by rw [List.append_nil]; exact h⟩
  | x :: r, p, ρ, h, ha => by
    obtain ⟨ρ1, e1, h1⟩ := h p x r rfl ρ ha
    obtain ⟨ρ2, e2, h2⟩ := forL_pre' (l := r) (p := p ++ [x]) (fun d y q hq => h d y q (by rw [← hq]; simp)) h1
    refine ⟨ρ2, ?_, by rw [List.append_assoc, List.singleton_append] at h2; exact h2⟩
    rw [List.map_cons]
    show (match f (e x) ρ with | .ok .nx ρ1 => forL f (r.map e) ρ1 | o => o) = _
    rw [e1]
    exact e2
theorem forL_pre {α : Type} {e : α → PyData} {f : PyData → Rho → R Fl} {I : List α → Rho → Prop} {l : List α} {ρ : Rho} (h : ∀ d x r, l = d ++ x :: r → ∀ ρ, I d ρ → ∃ ρ', f (e x) ρ = .ok .nx ρ' ∧ I (d ++ [x]) ρ') (h0 : I [] ρ) : ∃ ρ', forL f (l.map e) ρ = .ok .nx ρ' ∧ I l ρ' :=
  forL_pre' (p := []) h h0
/-- a loop by a word about the state -/
theorem forL_ex {α β : Type} {e : α → PyData} {f : PyData → Rho → R Fl} {I : β → Rho → Prop} {step : β → α → β} : ∀ {l : List α} {a : β} {ρ : Rho}, (∀ x, x ∈ l → ∀ a ρ, I a ρ → ∃ ρ', f (e x) ρ = .ok .nx ρ' ∧ I (step a x) ρ') → I a ρ → ∃ ρ', forL f (l.map e) ρ = .ok .nx ρ' ∧ I (l.foldl step a) ρ'
  | [], a, ρ, _, h => ⟨ρ, rfl, h⟩
  | x :: r, a, ρ, h, ha => by
    obtain ⟨ρ1, e1, h1⟩ := h x List.mem_cons_self a ρ ha
    obtain ⟨ρ2, e2, h2⟩ := forL_ex (l := r) (fun y hy => h y (List.mem_cons_of_mem _ hy)) h1
    refine ⟨ρ2, ?_, h2⟩
    rw [List.map_cons]
    show (match f (e x) ρ with | .ok .nx ρ1 => forL f (r.map e) ρ1 | o => o) = _
    rw [e1]
    exact e2
theorem x1_asgN (cf : CT) (om : List Nat) (i : Nat) (e : ME) (ρ : Rho) : x1 cf om (.asg (.n i) e) ρ = ((sem cf e).v ρ).bind fun d ρ1 => optB (own1 om i d ρ1) fun ρ2 => .ok .nx ρ2 := rfl
theorem x1_asgT (cf : CT) (om : List Nat) (ts : List Tg) (e : ME) (ρ : Rho) : x1 cf om (.asg (.t ts) e) ρ = ((sem cf e).v ρ).bind fun d ρ1 => optB (bindTg (.t ts) d.1 ρ1) fun ρ2 => .ok .nx ρ2 := rfl
theorem x1_par (cf : CT) (om : List Nat) (ts : List Nat) (es : List ME) (ρ : Rho) : x1 cf om (.par ts es) ρ = (evF (sems cf es) ρ).bind fun ds ρ1 => optB (own2 om ts ds ρ1) fun ρ2 => .ok .nx ρ2 := rfl
theorem x1_aug (cf : CT) (om : List Nat) (i : Nat) (o : Op) (e : ME) (ρ : Rho) : x1 cf om (.aug i o e) ρ = (match ρ[i]? with
    | some (.sh (.int a)) => ((sem cf e).v ρ).bind fun d ρ1 => optB (augI o a d.1) fun z => optB (setSl i (.sh z) ρ1) fun ρ2 => .ok .nx ρ2
    | _ => .st) := rfl
theorem x1_app (cf : CT) (om : List Nat) (i : Nat) (e : ME) (ρ : Rho) : x1 cf om (.app i e) ρ = (match ρ[i]? with
    | some (.mu _ (.list _)) => ((sem cf e).v ρ).bind fun d ρ1 => chg i (appI d.1) ρ1
    | _ => .st) := rfl
theorem x1_ext (cf : CT) (om : List Nat) (i : Nat) (e : ME) (ρ : Rho) : x1 cf om (.ext i e) ρ = (match ρ[i]? with
    | some (.mu _ (.list _)) => ((sem cf e).v ρ).bind fun d ρ1 => chg i (extI d.1) ρ1
    | _ => .st) := rfl
theorem x1_putT (cf : CT) (om : List Nat) (i : Nat) (a b e : ME) (ρ : Rho) : x1 cf om (.putT i a b e) ρ = ((sem cf e).v ρ).bind fun d ρ1 => (match ρ1[i]? with
    | some (.mu _ _) => (evs [sem cf a, sem cf b] ρ1).bind fun ks ρ2 => chg i (putTI ks d.1) ρ2
    | _ => .st) := rfl
theorem x1_retv (cf : CT) (om : List Nat) (i : Nat) (ρ : Rho) : x1 cf om (.ret (.v i)) ρ = (match ρ[i]? with
    | some (.mu true d) => if frzOk d = true then .ok (.rt d true) (ρ.set i .no) else .st
    | some (.sh d) => .ok (.rt d false) ρ
    | _ => .st) := rfl
theorem x1_ite (cf : CT) (om : List Nat) (c : ME) (a b : List MS) (ρ : Rho) : x1 cf om (.ite c a b) ρ = ((sem cf c).t ρ).bind fun t ρ1 => if t then xs cf om a ρ1 else xs cf om b ρ1 := by simp only [x1]
theorem x1_rai (cf : CT) (om : List Nat) (c : Str) (ρ : Rho) : x1 cf om (.rai c) ρ = .ex c ρ := by simp only [x1]
theorem x1_exp (cf : CT) (om : List Nat) (e : ME) (ρ : Rho) : x1 cf om (.exp e) ρ = ((sem cf e).v ρ).bind fun _ ρ1 => .ok .nx ρ1 := by simp only [x1]
theorem x1_pass (cf : CT) (om : List Nat) (ρ : Rho) : x1 cf om .pass ρ = .ok .nx ρ := by simp only [x1]
theorem x1_retc (cf : CT) (om : List Nat) (d : PyData) (ρ : Rho) : x1 cf om (.ret (.c d)) ρ = ((sem cf (.c d)).v ρ).bind fun d ρ1 => .ok (.rt d.1 d.2) ρ1 := rfl
theorem x1_reto (cf : CT) (om : List Nat) (o : Op) (as : List ME) (ρ : Rho) : x1 cf om (.ret (.op o as)) ρ = ((sem cf (.op o as)).v ρ).bind fun d ρ1 => .ok (.rt d.1 d.2) ρ1 := rfl
theorem x1_retb (cf : CT) (om : List Nat) (k : Bool) (as : List ME) (ρ : Rho) : x1 cf om (.ret (.bo k as)) ρ = ((sem cf (.bo k as)).v ρ).bind fun d ρ1 => .ok (.rt d.1 d.2) ρ1 := rfl
theorem x1_rett (cf : CT) (om : List Nat) (as : List ME) (ρ : Rho) : x1 cf om (.ret (.tu as)) ρ = ((sem cf (.tu as)).v ρ).bind fun d ρ1 => .ok (.rt d.1 d.2) ρ1 := rfl
theorem x1_reta (cf : CT) (om : List Nat) (f : Str) (as : List ME) (io : List Bool) (ρ : Rho) : x1 cf om (.ret (.ca f as io)) ρ = ((sem cf (.ca f as io)).v ρ).bind fun d ρ1 => .ok (.rt d.1 d.2) ρ1 := rfl
theorem x1_reti (cf : CT) (om : List Nat) (c a b : ME) (ρ : Rho) : x1 cf om (.ret (.ie c a b)) ρ = ((sem cf (.ie c a b)).v ρ).bind fun d ρ1 => .ok (.rt d.1 d.2) ρ1 := rfl
theorem x1_retp (cf : CT) (om : List Nat) (el : ME) (tg : Tg) (ik : Ik) (ia cd : List ME) (ρ : Rho) : x1 cf om (.ret (.cp el tg ik ia cd)) ρ = ((sem cf (.cp el tg ik ia cd)).v ρ).bind fun d ρ1 => .ok (.rt d.1 d.2) ρ1 := rfl
theorem sem_cx (cf : CT) (fs : List Str) (i : ME) (as : List ME) : sem cf (.cx fs i as) = mk (v_cx cf fs (sem cf i) (sems cf as)) := by simp only [sem]
theorem x1_retx (cf : CT) (om : List Nat) (fs : List Str) (i : ME) (as : List ME) (ρ : Rho) : x1 cf om (.ret (.cx fs i as)) ρ = ((sem cf (.cx fs i as)).v ρ).bind fun d ρ1 => .ok (.rt d.1 d.2) ρ1 := rfl
theorem x1_tryW (cf : CT) (om : List Nat) (b : List MS) (i : Nat) (f : Str) (ρ : Rho) : x1 cf om (.tryW b i f) ρ = tryR (xs cf om b ρ) := by simp only [x1]
theorem tryR_ok (f : Fl) (ρ : Rho) : tryR (.ok f ρ) = .ok f ρ := rfl
theorem tryR_ex {c : Str} {n : Nat} (h : exIx c = some n) (ρ : Rho) : tryR (.ex c ρ) = .ok (.rt (.tuple [.str "refused", .int (n : Nat)]) false) ρ := by simp only [tryR, h]
theorem x1_retl (cf : CT) (om : List Nat) (as : List ME) (ρ : Rho) : x1 cf om (.ret (.li as)) ρ = ((sem cf (.li as)).v ρ).bind fun d ρ1 => .ok (.rt d.1 d.2) ρ1 := rfl
end MP
end
section
set_option Elab.async false
set_option linter.all false
set_option maxRecDepth 100000
set_option maxHeartbeats 400001
namespace MP
open PySem
/-! ### loops by what is left -/
theorem forL_suf {α : Type} {e : α → PyData} {f : PyData → Rho → R Fl} {I : List α → Rho → Prop} : ∀ {l : List α} {ρ : Rho}, (∀ x r ρ, I (x :: r) ρ → ∃ ρ', f (e x) ρ = .ok .nx ρ' ∧ I r ρ') → I l ρ → ∃ ρ', forL f (l.map e) ρ = .ok .nx ρ' ∧ I [] ρ'
  | [], ρ, _, h => ⟨ρ, rfl, h⟩
  | x :: r, ρ, h, ha => by
    obtain ⟨ρ1, e1, h1⟩ := h x r ρ ha
    obtain ⟨ρ2, e2, h2⟩ := forL_suf (l := r) h h1
    refine ⟨ρ2, ?_, h2⟩
    rw [List.map_cons]
    show (match f (e x) ρ with | .ok .nx ρ1 => forL f (r.map e) ρ1 | o => o) = _
    rw [e1]
    exact e2
theorem forL_enu {α : Type} {e : α → PyData} {f : PyData → Rho → R Fl} {I : Nat → List α → Rho → Prop} : ∀ {l : List α} {k : Nat} {ρ : Rho}, (∀ k x r ρ, I k (x :: r) ρ → ∃ ρ', f (.tuple [.int (k : Nat), e x]) ρ = .ok .nx ρ' ∧ I (k + 1) r ρ') → I k l ρ → ∃ ρ', forL f (enumD k (l.map e)) ρ = .ok .nx ρ' ∧ I (k + l.length) [] ρ'
  | [], k, ρ, _, h => ⟨ρ, rfl, h⟩
  | x :: r, k, ρ, h, ha => by
    obtain ⟨ρ1, e1, h1⟩ := h k x r ρ ha
    obtain ⟨ρ2, e2, h2⟩ := forL_enu (l := r) (k := k + 1) h h1
    refine ⟨ρ2, ?_, by rw [List.length_cons, show k + (r.length + 1) = k + 1 + r.length by omega]; exact h2⟩
    rw [List.map_cons]
    show (match f (.tuple [.int (k : Nat), e x]) ρ with | .ok .nx ρ1 => forL f (enumD (k + 1) (r.map e)) ρ1 | o => o) = _
    rw [e1]
    exact e2
/-- a range's loop -/
theorem forL_rng {f : PyData → Rho → R Fl} {I : Nat → Rho → Prop} {lo : Int} {n : Nat} {ρ : Rho} (h : ∀ k ρ, k < n → I k ρ → ∃ ρ', f (.int (lo + k)) ρ = .ok .nx ρ' ∧ I (k + 1) ρ') (h0 : I 0 ρ) : ∃ ρ', forL f (rangeD lo n) ρ = .ok .nx ρ' ∧ I n ρ' := by
  have key : ∀ (m k : Nat) (ρ : Rho), k + m = n → I k ρ → ∃ ρ', forL f ((List.range' k m).map fun (i : Nat) => PyData.int (lo + i)) ρ = .ok .nx ρ' ∧ I n ρ' := by
    intro m
    induction m with
    | zero => intro k ρ e hk; exact ⟨ρ, rfl, by rw [← e]; exact hk⟩
    | succ m ih =>
      intro k ρ e hk
      obtain ⟨ρ1, e1, h1⟩ := h k ρ (by omega) hk
      obtain ⟨ρ2, e2, h2⟩ := ih (k + 1) ρ1 (by omega) h1
      refine ⟨ρ2, ?_, h2⟩
      rw [List.range'_succ, List.map_cons]
      show (match f (.int (lo + k)) ρ with | .ok .nx ρ1 => forL f _ ρ1 | o => o) = _
      rw [e1]
      exact e2
  have := key n 0 ρ (by omega) h0
  unfold rangeD
  rw [List.range_eq_range']
  exact this
/-! ### slices -/
theorem cut_from {α : Type} (xs : List α) (i : Nat) : cut xs (some ((i : Int) + 1)) none = xs.drop (i + 1) := by
  unfold cut
  have e : sIx xs.length 0 (some ((i : Int) + 1)) = min (i + 1) xs.length := by
    simp only [sIx]
    rw [if_neg (by omega)]
    congr 1
  rw [e]
  show (xs.drop (min (i + 1) xs.length)).take (xs.length - min (i + 1) xs.length) = _
  rw [List.take_of_length_le (by rw [List.length_drop]; omega)]
  by_cases h : i + 1 ≤ xs.length
  · rw [Nat.min_eq_left h]
  · rw [Nat.min_eq_right (by omega), List.drop_eq_nil_of_le (Nat.le_refl _), List.drop_eq_nil_of_le (by omega)]
theorem cut_to {α : Type} (xs : List α) (i : Nat) : cut xs none (some (i : Int)) = xs.take i := by
  unfold cut
  have e : sIx xs.length xs.length (some (i : Int)) = min i xs.length := by
    simp only [sIx]
    rw [if_neg (by omega)]
    congr 1
  rw [e]
  show (xs.drop 0).take (min i xs.length - 0) = _
  rw [List.drop_zero, Nat.sub_zero]
  by_cases h : i ≤ xs.length
  · rw [Nat.min_eq_left h]
  · rw [(Nat.min_eq_right (by omega)), List.take_of_length_le (Nat.le_refl _), List.take_of_length_le (by omega)]
/-- a slot that may be stored to -/
def plainS : Sl → Prop
  | .sh _ | .no => True
  | _ => False
theorem plain_cases {s : Sl} (h : plainS s) : s = .no ∨ ∃ d, s = .sh d := by
  cases s with
  | no => exact .inl rfl
  | sh d => exact .inr ⟨d, rfl⟩
  | _ => cases h
end MP
end
section
set_option Elab.async false
set_option linter.all false
set_option maxRecDepth 100000
set_option maxHeartbeats 0
namespace LW
open PySem PySem.Spec PyProof.Rows L2 MP
def top (i : Nat) : Stmt := PySem.Challenge.pw_siteworks_k19_logs_refused.main.body.getD i (.Pass ⟨0, 0, 0, 0⟩)
def nm0 : List Str := ["SiteError", "NoDrawing", "NoPart", "NoBook", "NoJob", "NoSite", "NoPlan", "NoStarts", "NoOrder", "TooMany", "NoEvents", "NoChange", "NotStanding", "NoLog", "NoText", "Busy", "Nothing", "LETTERS", "KINDS", "MOST", "is_whole", "is_name", "is_box", "is_part", "good_drawing", "part_of", "top_of", "room_of", "side_shared", "ground_shared"]
def nm1 : List Str := ["clash", "rests_of", "holds", "carried", "part_wrong", "wrong_of", "is_sound", "HIGH", "ORDERS", "is_rate", "good_book", "is_told", "needs_of", "is_straight", "good_job", "need_job", "rate_of", "work_of", "is_checked", "names_of", "MONTH", "WORDS", "is_row", "days_done", "need_log", "months_of", "done_in", "paid", "_law_cell_at", "_law_mixed"]
def nm2 : List Str := ["_law_draw", "_law_pick", "_law_which", "_law_ask"]
def names : List Str := nm0 ++ nm1 ++ nm2
def m_is_whole : MDef := ⟨[false, false, false], 3, [], [.ret (.bo true [.op (.isi "int") [.v 0], .nt (.op (.isi "bool") [.v 0]), .ch .le .le (.v 1) (.v 0) (.v 2)])]⟩
def d_is_whole : DD := ⟨"is_whole", ["thing", "low", "high"], ["thing", "low", "high"], defArgs (top 22), defScope (top 22), defBody (top 22), m_is_whole⟩
def c1_is_name : ME := .cp (.op (.isin false) [.v 1, .g "LETTERS" (.str "abcdefghijklmnopqrstuvwxyz")]) (.n 1) .lis [.v 0] []
theorem c1_is_name_o (cf : CT) (ρ : Rho) : (sem cf c1_is_name).o ρ = ((sem cf c1_is_name).v ρ).bind fun d ρ1 => .ok (.val d.1) ρ1 := rfl
theorem c1_is_name_a (cf : CT) (ρ : Rho) : (sem cf c1_is_name).a false ρ = ((sem cf c1_is_name).v ρ).bind fun d ρ1 => .ok (.val d.1) ρ1 := rfl
theorem c1_is_name_r (cf : CT) (om : List Nat) (ρ : Rho) : x1 cf om (.ret c1_is_name) ρ = ((sem cf c1_is_name).v ρ).bind fun d ρ1 => .ok (.rt d.1 d.2) ρ1 := rfl
def m_is_name : MDef := ⟨[false], 2, [], [.ret (.bo true [.op (.isi "str") [.v 0], .ch .le .le (.c (.int 1)) (.op .len [.v 0]) (.c (.int 6)), .op .all [c1_is_name]])]⟩
def d_is_name : DD := ⟨"is_name", ["thing", "sign"], ["thing"], defArgs (top 23), defScope (top 23), defBody (top 23), m_is_name⟩
def c1_is_box : ME := .cp (.ca "is_whole" [.v 1, .c (.int 0), .c (.int 9)] [false, false, false]) (.n 1) .lis [.sl (.v 0) [] [.c (.int 3)]] []
theorem c1_is_box_o (cf : CT) (ρ : Rho) : (sem cf c1_is_box).o ρ = ((sem cf c1_is_box).v ρ).bind fun d ρ1 => .ok (.val d.1) ρ1 := rfl
theorem c1_is_box_a (cf : CT) (ρ : Rho) : (sem cf c1_is_box).a false ρ = ((sem cf c1_is_box).v ρ).bind fun d ρ1 => .ok (.val d.1) ρ1 := rfl
theorem c1_is_box_r (cf : CT) (om : List Nat) (ρ : Rho) : x1 cf om (.ret c1_is_box) ρ = ((sem cf c1_is_box).v ρ).bind fun d ρ1 => .ok (.rt d.1 d.2) ρ1 := rfl
def c2_is_box : ME := .cp (.ca "is_whole" [.v 1, .c (.int 1), .c (.int 6)] [false, false, false]) (.n 1) .lis [.sl (.v 0) [.c (.int 3)] []] []
theorem c2_is_box_o (cf : CT) (ρ : Rho) : (sem cf c2_is_box).o ρ = ((sem cf c2_is_box).v ρ).bind fun d ρ1 => .ok (.val d.1) ρ1 := rfl
theorem c2_is_box_a (cf : CT) (ρ : Rho) : (sem cf c2_is_box).a false ρ = ((sem cf c2_is_box).v ρ).bind fun d ρ1 => .ok (.val d.1) ρ1 := rfl
theorem c2_is_box_r (cf : CT) (om : List Nat) (ρ : Rho) : x1 cf om (.ret c2_is_box) ρ = ((sem cf c2_is_box).v ρ).bind fun d ρ1 => .ok (.rt d.1 d.2) ρ1 := rfl
def m_is_box : MDef := ⟨[false], 2, [], [.ite (.bo false [.nt (.op (.isi "tuple") [.v 0]), .op .ne [.op .len [.v 0], .c (.int 6)], .nt (.op .all [c1_is_box])]) [.ret (.c (.bool false))] [],
    .ret (.op .all [c2_is_box])]⟩
def d_is_box : DD := ⟨"is_box", ["thing", "one"], ["thing"], defArgs (top 24), defScope (top 24), defBody (top 24), m_is_box⟩
def m_is_part : MDef := ⟨[false], 1, [], [.ite (.bo false [.nt (.op (.isi "tuple") [.v 0]), .op .ne [.op .len [.v 0], .c (.int 3)], .nt (.ca "is_name" [.op .idx [.v 0, .c (.int 0)]] [false])]) [.ret (.c (.bool false))] [],
    .ret (.bo true [.op (.isi "str") [.op .idx [.v 0, .c (.int 1)]], .op (.isin false) [.op .idx [.v 0, .c (.int 1)], .g "KINDS" (.tuple [.str "pad", .str "post", .str "wall", .str "slab", .str "roof"])], .ca "is_box" [.op .idx [.v 0, .c (.int 2)]] [false]])]⟩
def d_is_part : DD := ⟨"is_part", ["thing"], ["thing"], defArgs (top 25), defScope (top 25), defBody (top 25), m_is_part⟩
def c1_good_drawing : ME := .cp (.ca "is_part" [.v 1] [false]) (.n 1) .lis [.v 0] []
theorem c1_good_drawing_o (cf : CT) (ρ : Rho) : (sem cf c1_good_drawing).o ρ = ((sem cf c1_good_drawing).v ρ).bind fun d ρ1 => .ok (.val d.1) ρ1 := rfl
theorem c1_good_drawing_a (cf : CT) (ρ : Rho) : (sem cf c1_good_drawing).a false ρ = ((sem cf c1_good_drawing).v ρ).bind fun d ρ1 => .ok (.val d.1) ρ1 := rfl
theorem c1_good_drawing_r (cf : CT) (om : List Nat) (ρ : Rho) : x1 cf om (.ret c1_good_drawing) ρ = ((sem cf c1_good_drawing).v ρ).bind fun d ρ1 => .ok (.rt d.1 d.2) ρ1 := rfl
def c2_good_drawing : ME := .ls (.op .idx [.v 1, .c (.int 0)]) (.n 1) .lis [.v 0] []
theorem c2_good_drawing_o (cf : CT) (ρ : Rho) : (sem cf c2_good_drawing).o ρ = ((sem cf c2_good_drawing).v ρ).bind fun d ρ1 => .ok (.val d.1) ρ1 := rfl
theorem c2_good_drawing_a (cf : CT) (ρ : Rho) : (sem cf c2_good_drawing).a false ρ = ((sem cf c2_good_drawing).v ρ).bind fun d ρ1 => .ok (.val d.1) ρ1 := rfl
theorem c2_good_drawing_r (cf : CT) (om : List Nat) (ρ : Rho) : x1 cf om (.ret c2_good_drawing) ρ = ((sem cf c2_good_drawing).v ρ).bind fun d ρ1 => .ok (.rt d.1 d.2) ρ1 := rfl
def m_good_drawing : MDef := ⟨[false], 2, [], [.ite (.bo false [.nt (.op (.isi "tuple") [.v 0]), .nt (.ch .le .le (.c (.int 1)) (.op .len [.v 0]) (.g "MOST" (.int 10))), .nt (.op .all [c1_good_drawing])]) [.ret (.c (.bool false))] [],
    .ret (.op .eq [c2_good_drawing, .op .len [.v 0]])]⟩
def d_good_drawing : DD := ⟨"good_drawing", ["thing", "part"], ["thing"], defArgs (top 26), defScope (top 26), defBody (top 26), m_good_drawing⟩
def c1_part_of : ME := .cp (.v 3) (.n 3) .lis [.v 0] [.bo true [.op (.isi "str") [.v 1], .op .eq [.op .idx [.v 3, .c (.int 0)], .v 1]]]
theorem c1_part_of_o (cf : CT) (ρ : Rho) : (sem cf c1_part_of).o ρ = ((sem cf c1_part_of).v ρ).bind fun d ρ1 => .ok (.val d.1) ρ1 := rfl
theorem c1_part_of_a (cf : CT) (ρ : Rho) : (sem cf c1_part_of).a false ρ = ((sem cf c1_part_of).v ρ).bind fun d ρ1 => .ok (.val d.1) ρ1 := rfl
theorem c1_part_of_r (cf : CT) (om : List Nat) (ρ : Rho) : x1 cf om (.ret c1_part_of) ρ = ((sem cf c1_part_of).v ρ).bind fun d ρ1 => .ok (.rt d.1 d.2) ρ1 := rfl
def m_part_of : MDef := ⟨[false, false], 4, [], [.asg (.n 2) (c1_part_of),
    .ite (.op .eq [.v 2, .li []]) [.rai "NoPart"] [],
    .ret (.op .idx [.v 2, .c (.int 0)])]⟩
def d_part_of : DD := ⟨"part_of", ["drawing", "name", "found", "part"], ["drawing", "name"], defArgs (top 27), defScope (top 27), defBody (top 27), m_part_of⟩
def m_top_of : MDef := ⟨[false], 1, [], [.ret (.op .add [.op .idx [.op .idx [.v 0, .c (.int 2)], .c (.int 2)], .op .idx [.op .idx [.v 0, .c (.int 2)], .c (.int 5)]])]⟩
def d_top_of : DD := ⟨"top_of", ["part"], ["part"], defArgs (top 28), defScope (top 28), defBody (top 28), m_top_of⟩
def m_room_of : MDef := ⟨[false], 1, [], [.ret (.op .mul [.op .mul [.op .idx [.op .idx [.v 0, .c (.int 2)], .c (.int 3)], .op .idx [.op .idx [.v 0, .c (.int 2)], .c (.int 4)]], .op .idx [.op .idx [.v 0, .c (.int 2)], .c (.int 5)]])]⟩
def d_room_of : DD := ⟨"room_of", ["part"], ["part"], defArgs (top 29), defScope (top 29), defBody (top 29), m_room_of⟩
def m_side_shared : MDef := ⟨[false, false, false, false], 4, [], [.ret (.op .mx2 [.c (.int 0), .op .sub [.op .mn2 [.op .add [.v 0, .v 1], .op .add [.v 2, .v 3]], .op .mx2 [.v 0, .v 2]]])]⟩
def d_side_shared : DD := ⟨"side_shared", ["low", "long", "other", "more"], ["low", "long", "other", "more"], defArgs (top 30), defScope (top 30), defBody (top 30), m_side_shared⟩
def m_ground_shared : MDef := ⟨[false, false], 4, [], [.par [2, 3] [.op .idx [.v 0, .c (.int 2)], .op .idx [.v 1, .c (.int 2)]],
    .ret (.op .mul [.ca "side_shared" [.op .idx [.v 2, .c (.int 0)], .op .idx [.v 2, .c (.int 3)], .op .idx [.v 3, .c (.int 0)], .op .idx [.v 3, .c (.int 3)]] [false, false, false, false], .ca "side_shared" [.op .idx [.v 2, .c (.int 1)], .op .idx [.v 2, .c (.int 4)], .op .idx [.v 3, .c (.int 1)], .op .idx [.v 3, .c (.int 4)]] [false, false, false, false]])]⟩
def d_ground_shared : DD := ⟨"ground_shared", ["one", "other", "a", "b"], ["one", "other"], defArgs (top 31), defScope (top 31), defBody (top 31), m_ground_shared⟩
def m_clash : MDef := ⟨[false, false], 2, [], [.ret (.bo true [.op .gt [.ca "ground_shared" [.v 0, .v 1] [false, false], .c (.int 0)], .op .gt [.ca "side_shared" [.op .idx [.op .idx [.v 0, .c (.int 2)], .c (.int 2)], .op .idx [.op .idx [.v 0, .c (.int 2)], .c (.int 5)], .op .idx [.op .idx [.v 1, .c (.int 2)], .c (.int 2)], .op .idx [.op .idx [.v 1, .c (.int 2)], .c (.int 5)]] [false, false, false, false], .c (.int 0)]])]⟩
def d_clash : DD := ⟨"clash", ["one", "other"], ["one", "other"], defArgs (top 32), defScope (top 32), defBody (top 32), m_clash⟩
def c1_rests_of : ME := .cp (.v 2) (.n 2) .lis [.v 0] [.bo true [.op .eq [.ca "top_of" [.v 2] [false], .op .idx [.op .idx [.v 1, .c (.int 2)], .c (.int 2)]], .op .gt [.ca "ground_shared" [.v 1, .v 2] [false, false], .c (.int 0)]]]
theorem c1_rests_of_o (cf : CT) (ρ : Rho) : (sem cf c1_rests_of).o ρ = ((sem cf c1_rests_of).v ρ).bind fun d ρ1 => .ok (.val d.1) ρ1 := rfl
theorem c1_rests_of_a (cf : CT) (ρ : Rho) : (sem cf c1_rests_of).a false ρ = ((sem cf c1_rests_of).v ρ).bind fun d ρ1 => .ok (.val d.1) ρ1 := rfl
theorem c1_rests_of_r (cf : CT) (om : List Nat) (ρ : Rho) : x1 cf om (.ret c1_rests_of) ρ = ((sem cf c1_rests_of).v ρ).bind fun d ρ1 => .ok (.rt d.1 d.2) ρ1 := rfl
def m_rests_of : MDef := ⟨[false, false], 3, [], [.ret (c1_rests_of)]⟩
def d_rests_of : DD := ⟨"rests_of", ["drawing", "part", "other"], ["drawing", "part"], defArgs (top 33), defScope (top 33), defBody (top 33), m_rests_of⟩
def m_holds : MDef := ⟨[false, false, false], 3, [], [.ret (.bo true [.ch .le .lt (.op .idx [.op .idx [.v 0, .c (.int 2)], .c (.int 0)]) (.v 1) (.op .add [.op .idx [.op .idx [.v 0, .c (.int 2)], .c (.int 0)], .op .idx [.op .idx [.v 0, .c (.int 2)], .c (.int 3)]]), .ch .le .lt (.op .idx [.op .idx [.v 0, .c (.int 2)], .c (.int 1)]) (.v 2) (.op .add [.op .idx [.op .idx [.v 0, .c (.int 2)], .c (.int 1)], .op .idx [.op .idx [.v 0, .c (.int 2)], .c (.int 4)]])])]⟩
def d_holds : DD := ⟨"holds", ["part", "x", "y"], ["part", "x", "y"], defArgs (top 34), defScope (top 34), defBody (top 34), m_holds⟩
def c1_carried : ME := .cp (.ca "holds" [.v 6, .v 2, .v 5] [false, false, false]) (.n 6) .lis [.v 3] []
theorem c1_carried_o (cf : CT) (ρ : Rho) : (sem cf c1_carried).o ρ = ((sem cf c1_carried).v ρ).bind fun d ρ1 => .ok (.val d.1) ρ1 := rfl
theorem c1_carried_a (cf : CT) (ρ : Rho) : (sem cf c1_carried).a false ρ = ((sem cf c1_carried).v ρ).bind fun d ρ1 => .ok (.val d.1) ρ1 := rfl
theorem c1_carried_r (cf : CT) (om : List Nat) (ρ : Rho) : x1 cf om (.ret c1_carried) ρ = ((sem cf c1_carried).v ρ).bind fun d ρ1 => .ok (.rt d.1 d.2) ρ1 := rfl
def b2_carried : List MS := [.aug 4 .add (.op .int [.op .any [c1_carried]])]
def l2_carried : MS := .forr (.n 5) .rng2 [.op .idx [.op .idx [.v 1, .c (.int 2)], .c (.int 1)], .op .add [.op .idx [.op .idx [.v 1, .c (.int 2)], .c (.int 1)], .op .idx [.op .idx [.v 1, .c (.int 2)], .c (.int 4)]]] b2_carried
def b1_carried : List MS := [l2_carried]
def l1_carried : MS := .forr (.n 2) .rng2 [.op .idx [.op .idx [.v 1, .c (.int 2)], .c (.int 0)], .op .add [.op .idx [.op .idx [.v 1, .c (.int 2)], .c (.int 0)], .op .idx [.op .idx [.v 1, .c (.int 2)], .c (.int 3)]]] b1_carried
def m_carried : MDef := ⟨[false, false], 7, [], [.par [3, 4] [.ca "rests_of" [.v 0, .v 1] [false, false], .c (.int 0)],
    l1_carried,
    .ret (.v 4)]⟩
def d_carried : DD := ⟨"carried", ["drawing", "part", "x", "below", "many", "y", "other"], ["drawing", "part"], defArgs (top 35), defScope (top 35), defBody (top 35), m_carried⟩
def c1_part_wrong : ME := .cp (.op .eq [.op .idx [.v 4, .c (.int 1)], .c (.str "roof")]) (.n 4) .lis [.ca "rests_of" [.v 0, .v 1] [false, false]] []
theorem c1_part_wrong_o (cf : CT) (ρ : Rho) : (sem cf c1_part_wrong).o ρ = ((sem cf c1_part_wrong).v ρ).bind fun d ρ1 => .ok (.val d.1) ρ1 := rfl
theorem c1_part_wrong_a (cf : CT) (ρ : Rho) : (sem cf c1_part_wrong).a false ρ = ((sem cf c1_part_wrong).v ρ).bind fun d ρ1 => .ok (.val d.1) ρ1 := rfl
theorem c1_part_wrong_r (cf : CT) (om : List Nat) (ρ : Rho) : x1 cf om (.ret c1_part_wrong) ρ = ((sem cf c1_part_wrong).v ρ).bind fun d ρ1 => .ok (.rt d.1 d.2) ρ1 := rfl
def m_part_wrong : MDef := ⟨[false, false], 5, [3], [.par [2, 3] [.op .idx [.v 1, .c (.int 0)], .li []],
    .ite (.bo true [.op .gt [.op .idx [.op .idx [.v 1, .c (.int 2)], .c (.int 2)], .c (.int 0)], .op .lt [.op .mul [.c (.int 2), .ca "carried" [.v 0, .v 1] [false, false]], .op .mul [.op .idx [.op .idx [.v 1, .c (.int 2)], .c (.int 3)], .op .idx [.op .idx [.v 1, .c (.int 2)], .c (.int 4)]]]]) [.app 3 (.tu [.c (.str "hangs"), .v 2])] [],
    .ite (.op .any [c1_part_wrong]) [.app 3 (.tu [.c (.str "roof"), .v 2])] [],
    .ite (.bo true [.op .eq [.op .idx [.v 1, .c (.int 1)], .c (.str "pad")], .op .gt [.op .idx [.op .idx [.v 1, .c (.int 2)], .c (.int 2)], .c (.int 0)]]) [.app 3 (.tu [.c (.str "pad"), .v 2])] [],
    .ret (.v 3)]⟩
def d_part_wrong : DD := ⟨"part_wrong", ["drawing", "part", "name", "made", "other"], ["drawing", "part"], defArgs (top 36), defScope (top 36), defBody (top 36), m_part_wrong⟩
def b2_wrong_of : List MS := [.ite (.ca "clash" [.v 3, .v 4] [false, false]) [.app 1 (.op .add [.tu [.c (.str "clash")], .op .tuple [.op .sorted [.li [.op .idx [.v 3, .c (.int 0)], .op .idx [.v 4, .c (.int 0)]]]]])] []]
def l2_wrong_of : MS := .forr (.n 4) .lis [.sl (.v 0) [.op .add [.v 2, .c (.int 1)]] []] b2_wrong_of
def b1_wrong_of : List MS := [.ext 1 (.ca "part_wrong" [.v 0, .v 3] [false, false]), l2_wrong_of]
def l1_wrong_of : MS := .forr (.t [(.n 2), (.n 3)]) .enu [.v 0] b1_wrong_of
def m_wrong_of : MDef := ⟨[false], 5, [1], [.asg (.n 1) (.li []),
    l1_wrong_of,
    .ret (.op .sorted [.v 1])]⟩
def d_wrong_of : DD := ⟨"wrong_of", ["drawing", "made", "at", "part", "other"], ["drawing"], defArgs (top 37), defScope (top 37), defBody (top 37), m_wrong_of⟩
def m_is_sound : MDef := ⟨[false], 1, [], [.ret (.bo true [.ca "good_drawing" [.v 0] [false], .op .eq [.ca "wrong_of" [.v 0] [false], .li []]])]⟩
def d_is_sound : DD := ⟨"is_sound", ["thing"], ["thing"], defArgs (top 38), defScope (top 38), defBody (top 38), m_is_sound⟩
def c1_is_rate : ME := .cp (.ca "is_whole" [.v 1, .v 2, .v 3] [false, false, false]) (.t [(.n 1), (.t [(.n 2), (.n 3)])]) .zip [.v 0, .tu [.tu [.c (.int 1), .c (.int 4)], .tu [.c (.int 1), .c (.int 20)], .tu [.c (.int 1), .c (.int 99)], .tu [.c (.int 0), .c (.int 1)]]] []
theorem c1_is_rate_o (cf : CT) (ρ : Rho) : (sem cf c1_is_rate).o ρ = ((sem cf c1_is_rate).v ρ).bind fun d ρ1 => .ok (.val d.1) ρ1 := rfl
theorem c1_is_rate_a (cf : CT) (ρ : Rho) : (sem cf c1_is_rate).a false ρ = ((sem cf c1_is_rate).v ρ).bind fun d ρ1 => .ok (.val d.1) ρ1 := rfl
theorem c1_is_rate_r (cf : CT) (om : List Nat) (ρ : Rho) : x1 cf om (.ret c1_is_rate) ρ = ((sem cf c1_is_rate).v ρ).bind fun d ρ1 => .ok (.rt d.1 d.2) ρ1 := rfl
def m_is_rate : MDef := ⟨[false], 4, [], [.ite (.bo false [.nt (.op (.isi "tuple") [.v 0]), .op .ne [.op .len [.v 0], .c (.int 4)]]) [.ret (.c (.bool false))] [],
    .ret (.op .all [c1_is_rate])]⟩
def d_is_rate : DD := ⟨"is_rate", ["thing", "one", "low", "high"], ["thing"], defArgs (top 42), defScope (top 42), defBody (top 42), m_is_rate⟩
def c1_good_book : ME := .cp (.ca "is_rate" [.v 1] [false]) (.n 1) .lis [.v 0] []
theorem c1_good_book_o (cf : CT) (ρ : Rho) : (sem cf c1_good_book).o ρ = ((sem cf c1_good_book).v ρ).bind fun d ρ1 => .ok (.val d.1) ρ1 := rfl
theorem c1_good_book_a (cf : CT) (ρ : Rho) : (sem cf c1_good_book).a false ρ = ((sem cf c1_good_book).v ρ).bind fun d ρ1 => .ok (.val d.1) ρ1 := rfl
theorem c1_good_book_r (cf : CT) (om : List Nat) (ρ : Rho) : x1 cf om (.ret c1_good_book) ρ = ((sem cf c1_good_book).v ρ).bind fun d ρ1 => .ok (.rt d.1 d.2) ρ1 := rfl
def m_good_book : MDef := ⟨[false], 2, [], [.ret (.bo true [.op (.isi "tuple") [.v 0], .op .eq [.op .len [.v 0], .op .len [.g "KINDS" (.tuple [.str "pad", .str "post", .str "wall", .str "slab", .str "roof"])]], .op .all [c1_good_book]])]⟩
def d_good_book : DD := ⟨"good_book", ["thing", "one"], ["thing"], defArgs (top 43), defScope (top 43), defBody (top 43), m_good_book⟩
def c1_is_told : ME := .cp (.bo true [.ca "is_name" [.v 2] [false], .op (.isin false) [.v 2, .v 0]]) (.n 2) .lis [.v 1] []
theorem c1_is_told_o (cf : CT) (ρ : Rho) : (sem cf c1_is_told).o ρ = ((sem cf c1_is_told).v ρ).bind fun d ρ1 => .ok (.val d.1) ρ1 := rfl
theorem c1_is_told_a (cf : CT) (ρ : Rho) : (sem cf c1_is_told).a false ρ = ((sem cf c1_is_told).v ρ).bind fun d ρ1 => .ok (.val d.1) ρ1 := rfl
theorem c1_is_told_r (cf : CT) (om : List Nat) (ρ : Rho) : x1 cf om (.ret c1_is_told) ρ = ((sem cf c1_is_told).v ρ).bind fun d ρ1 => .ok (.rt d.1 d.2) ρ1 := rfl
def m_is_told : MDef := ⟨[false, false], 3, [], [.ite (.bo false [.nt (.op (.isi "tuple") [.v 1]), .op .ne [.op .len [.v 1], .c (.int 2)], .nt (.op .all [c1_is_told])]) [.ret (.c (.bool false))] [],
    .ret (.op .ne [.op .idx [.v 1, .c (.int 0)], .op .idx [.v 1, .c (.int 1)]])]⟩
def d_is_told : DD := ⟨"is_told", ["names", "thing", "one"], ["names", "thing"], defArgs (top 44), defScope (top 44), defBody (top 44), m_is_told⟩
def c1_needs_of : ME := .cp (.op .idx [.v 3, .c (.int 0)]) (.n 3) .lis [.ca "rests_of" [.op .idx [.v 0, .c (.int 0)], .ca "part_of" [.op .idx [.v 0, .c (.int 0)], .v 1] [false, false]] [false, false]] []
theorem c1_needs_of_o (cf : CT) (ρ : Rho) : (sem cf c1_needs_of).o ρ = ((sem cf c1_needs_of).v ρ).bind fun d ρ1 => .ok (.val d.1) ρ1 := rfl
theorem c1_needs_of_a (cf : CT) (ρ : Rho) : (sem cf c1_needs_of).a false ρ = ((sem cf c1_needs_of).v ρ).bind fun d ρ1 => .ok (.val d.1) ρ1 := rfl
theorem c1_needs_of_r (cf : CT) (om : List Nat) (ρ : Rho) : x1 cf om (.ret c1_needs_of) ρ = ((sem cf c1_needs_of).v ρ).bind fun d ρ1 => .ok (.rt d.1 d.2) ρ1 := rfl
def c2_needs_of : ME := .cp (.v 5) (.t [(.n 4), (.n 5)]) .lis [.op .idx [.v 0, .c (.int 2)]] [.op .eq [.v 4, .v 1]]
theorem c2_needs_of_o (cf : CT) (ρ : Rho) : (sem cf c2_needs_of).o ρ = ((sem cf c2_needs_of).v ρ).bind fun d ρ1 => .ok (.val d.1) ρ1 := rfl
theorem c2_needs_of_a (cf : CT) (ρ : Rho) : (sem cf c2_needs_of).a false ρ = ((sem cf c2_needs_of).v ρ).bind fun d ρ1 => .ok (.val d.1) ρ1 := rfl
theorem c2_needs_of_r (cf : CT) (om : List Nat) (ρ : Rho) : x1 cf om (.ret c2_needs_of) ρ = ((sem cf c2_needs_of).v ρ).bind fun d ρ1 => .ok (.rt d.1 d.2) ρ1 := rfl
def m_needs_of : MDef := ⟨[false, false], 6, [], [.asg (.n 2) (c1_needs_of),
    .ret (.op .sortedSet [.op .add [.v 2, c2_needs_of]])]⟩
def d_needs_of : DD := ⟨"needs_of", ["job", "name", "made", "part", "one", "other"], ["job", "name"], defArgs (top 45), defScope (top 45), defBody (top 45), m_needs_of⟩
def c1_is_straight : ME := .dc (.op .idx [.v 4, .c (.int 0)]) (.ca "needs_of" [.v 0, .op .idx [.v 4, .c (.int 0)]] [false, false]) (.n 4) .lis [.op .idx [.v 0, .c (.int 0)]] []
theorem c1_is_straight_o (cf : CT) (ρ : Rho) : (sem cf c1_is_straight).o ρ = ((sem cf c1_is_straight).v ρ).bind fun d ρ1 => .ok (.val d.1) ρ1 := rfl
theorem c1_is_straight_a (cf : CT) (ρ : Rho) : (sem cf c1_is_straight).a false ρ = ((sem cf c1_is_straight).v ρ).bind fun d ρ1 => .ok (.val d.1) ρ1 := rfl
theorem c1_is_straight_r (cf : CT) (om : List Nat) (ρ : Rho) : x1 cf om (.ret c1_is_straight) ρ = ((sem cf c1_is_straight).v ρ).bind fun d ρ1 => .ok (.rt d.1 d.2) ρ1 := rfl
def c3_is_straight : ME := .cp (.op (.isin false) [.v 6, .v 1]) (.n 6) .lis [.op .idx [.v 1, .v 5]] []
theorem c3_is_straight_o (cf : CT) (ρ : Rho) : (sem cf c3_is_straight).o ρ = ((sem cf c3_is_straight).v ρ).bind fun d ρ1 => .ok (.val d.1) ρ1 := rfl
theorem c3_is_straight_a (cf : CT) (ρ : Rho) : (sem cf c3_is_straight).a false ρ = ((sem cf c3_is_straight).v ρ).bind fun d ρ1 => .ok (.val d.1) ρ1 := rfl
theorem c3_is_straight_r (cf : CT) (om : List Nat) (ρ : Rho) : x1 cf om (.ret c3_is_straight) ρ = ((sem cf c3_is_straight).v ρ).bind fun d ρ1 => .ok (.rt d.1 d.2) ρ1 := rfl
def c2_is_straight : ME := .cp (.v 5) (.n 5) .keys [.v 1] [.nt (.op .any [c3_is_straight])]
theorem c2_is_straight_o (cf : CT) (ρ : Rho) : (sem cf c2_is_straight).o ρ = ((sem cf c2_is_straight).v ρ).bind fun d ρ1 => .ok (.val d.1) ρ1 := rfl
theorem c2_is_straight_a (cf : CT) (ρ : Rho) : (sem cf c2_is_straight).a false ρ = ((sem cf c2_is_straight).v ρ).bind fun d ρ1 => .ok (.val d.1) ρ1 := rfl
theorem c2_is_straight_r (cf : CT) (om : List Nat) (ρ : Rho) : x1 cf om (.ret c2_is_straight) ρ = ((sem cf c2_is_straight).v ρ).bind fun d ρ1 => .ok (.rt d.1 d.2) ρ1 := rfl
def c4_is_straight : ME := .dc (.v 5) (.op .idx [.v 1, .v 5]) (.n 5) .keys [.v 1] [.op (.isin true) [.v 5, .v 3]]
theorem c4_is_straight_o (cf : CT) (ρ : Rho) : (sem cf c4_is_straight).o ρ = ((sem cf c4_is_straight).v ρ).bind fun d ρ1 => .ok (.val d.1) ρ1 := rfl
theorem c4_is_straight_a (cf : CT) (ρ : Rho) : (sem cf c4_is_straight).a false ρ = ((sem cf c4_is_straight).v ρ).bind fun d ρ1 => .ok (.val d.1) ρ1 := rfl
theorem c4_is_straight_r (cf : CT) (om : List Nat) (ρ : Rho) : x1 cf om (.ret c4_is_straight) ρ = ((sem cf c4_is_straight).v ρ).bind fun d ρ1 => .ok (.rt d.1 d.2) ρ1 := rfl
def m_is_straight : MDef := ⟨[false], 7, [], [.asg (.n 1) (c1_is_straight),
    .asg (.n 2) (.c (.bool true)),
    .wh (.v 2) [.asg (.n 3) (c2_is_straight), .asg (.n 1) (c4_is_straight), .asg (.n 2) (.op .ne [.v 3, .li []])],
    .ret (.op .emp [.v 1])]⟩
def d_is_straight : DD := ⟨"is_straight", ["job", "left", "more", "free", "part", "name", "other"], ["job"], defArgs (top 46), defScope (top 46), defBody (top 46), m_is_straight⟩
def c1_good_job : ME := .cp (.op .idx [.v 2, .c (.int 0)]) (.n 2) .lis [.op .idx [.v 0, .c (.int 0)]] []
theorem c1_good_job_o (cf : CT) (ρ : Rho) : (sem cf c1_good_job).o ρ = ((sem cf c1_good_job).v ρ).bind fun d ρ1 => .ok (.val d.1) ρ1 := rfl
theorem c1_good_job_a (cf : CT) (ρ : Rho) : (sem cf c1_good_job).a false ρ = ((sem cf c1_good_job).v ρ).bind fun d ρ1 => .ok (.val d.1) ρ1 := rfl
theorem c1_good_job_r (cf : CT) (om : List Nat) (ρ : Rho) : x1 cf om (.ret c1_good_job) ρ = ((sem cf c1_good_job).v ρ).bind fun d ρ1 => .ok (.rt d.1 d.2) ρ1 := rfl
def c2_good_job : ME := .cp (.ca "is_told" [.v 1, .v 3] [false, false]) (.n 3) .lis [.op .idx [.v 0, .c (.int 2)]] []
theorem c2_good_job_o (cf : CT) (ρ : Rho) : (sem cf c2_good_job).o ρ = ((sem cf c2_good_job).v ρ).bind fun d ρ1 => .ok (.val d.1) ρ1 := rfl
theorem c2_good_job_a (cf : CT) (ρ : Rho) : (sem cf c2_good_job).a false ρ = ((sem cf c2_good_job).v ρ).bind fun d ρ1 => .ok (.val d.1) ρ1 := rfl
theorem c2_good_job_r (cf : CT) (om : List Nat) (ρ : Rho) : x1 cf om (.ret c2_good_job) ρ = ((sem cf c2_good_job).v ρ).bind fun d ρ1 => .ok (.rt d.1 d.2) ρ1 := rfl
def m_good_job : MDef := ⟨[false], 4, [], [.ite (.bo false [.nt (.op (.isi "tuple") [.v 0]), .op .ne [.op .len [.v 0], .c (.int 3)], .nt (.ca "is_sound" [.op .idx [.v 0, .c (.int 0)]] [false]), .nt (.ca "good_book" [.op .idx [.v 0, .c (.int 1)]] [false])]) [.ret (.c (.bool false))] [],
    .ite (.bo false [.nt (.op (.isi "tuple") [.op .idx [.v 0, .c (.int 2)]]), .op .gt [.op .len [.op .idx [.v 0, .c (.int 2)]], .g "ORDERS" (.int 10)]]) [.ret (.c (.bool false))] [],
    .asg (.n 1) (c1_good_job),
    .ret (.bo true [.op .all [c2_good_job], .ca "is_straight" [.v 0] [false]])]⟩
def d_good_job : DD := ⟨"good_job", ["thing", "names", "part", "one"], ["thing"], defArgs (top 47), defScope (top 47), defBody (top 47), m_good_job⟩
def m_need_job : MDef := ⟨[false], 1, [], [.ite (.nt (.ca "good_job" [.v 0] [false])) [.rai "NoJob"] []]⟩
def d_need_job : DD := ⟨"need_job", ["job"], ["job"], defArgs (top 48), defScope (top 48), defBody (top 48), m_need_job⟩
def m_rate_of : MDef := ⟨[false, false], 2, [], [.ret (.op .idx [.op .idx [.v 0, .c (.int 1)], .ix true (.g "KINDS" (.tuple [.str "pad", .str "post", .str "wall", .str "slab", .str "roof"])) (.op .idx [.v 1, .c (.int 1)])])]⟩
def d_rate_of : DD := ⟨"rate_of", ["job", "part"], ["job", "part"], defArgs (top 49), defScope (top 49), defBody (top 49), m_rate_of⟩
def m_work_of : MDef := ⟨[false, false], 7, [], [.asg (.t [(.n 3), (.n 4), (.n 5), (.n 6)]) (.ca "rate_of" [.v 0, .v 1] [false, false]),
    .asg (.n 2) (.ca "room_of" [.v 1] [false]),
    .ret (.tu [.op .fdiv [.op .sub [.op .add [.v 2, .v 4], .c (.int 1)], .v 4], .v 3, .op .int [.op .gt [.ca "top_of" [.v 1] [false], .g "HIGH" (.int 3)]], .op .mul [.v 2, .v 5]])]⟩
def d_work_of : DD := ⟨"work_of", ["job", "part", "room", "hands", "pace", "price", "checked"], ["job", "part"], defArgs (top 50), defScope (top 50), defBody (top 50), m_work_of⟩
def m_is_checked : MDef := ⟨[false, false], 2, [], [.ret (.op .idx [.ca "rate_of" [.v 0, .v 1] [false, false], .c (.int 3)])]⟩
def d_is_checked : DD := ⟨"is_checked", ["job", "part"], ["job", "part"], defArgs (top 51), defScope (top 51), defBody (top 51), m_is_checked⟩
def c1_names_of : ME := .cp (.op .idx [.v 1, .c (.int 0)]) (.n 1) .lis [.op .idx [.v 0, .c (.int 0)]] []
theorem c1_names_of_o (cf : CT) (ρ : Rho) : (sem cf c1_names_of).o ρ = ((sem cf c1_names_of).v ρ).bind fun d ρ1 => .ok (.val d.1) ρ1 := rfl
theorem c1_names_of_a (cf : CT) (ρ : Rho) : (sem cf c1_names_of).a false ρ = ((sem cf c1_names_of).v ρ).bind fun d ρ1 => .ok (.val d.1) ρ1 := rfl
theorem c1_names_of_r (cf : CT) (om : List Nat) (ρ : Rho) : x1 cf om (.ret c1_names_of) ρ = ((sem cf c1_names_of).v ρ).bind fun d ρ1 => .ok (.rt d.1 d.2) ρ1 := rfl
def m_names_of : MDef := ⟨[false], 2, [], [.ret (c1_names_of)]⟩
def d_names_of : DD := ⟨"names_of", ["job", "part"], ["job"], defArgs (top 52), defScope (top 52), defBody (top 52), m_names_of⟩
def m_is_row : MDef := ⟨[false, false], 2, [], [.ite (.bo false [.nt (.op (.isi "tuple") [.v 1]), .op .ne [.op .len [.v 1], .c (.int 3)], .nt (.ca "is_whole" [.op .idx [.v 1, .c (.int 0)], .c (.int 0), .c (.int 99999)] [false, false, false])]) [.ret (.c (.bool false))] [],
    .ret (.bo true [.op (.isi "str") [.op .idx [.v 1, .c (.int 1)]], .op (.isin false) [.op .idx [.v 1, .c (.int 1)], .g "WORDS" (.tuple [.str "fails", .str "passes", .str "begins", .str "ends"])], .ca "is_name" [.op .idx [.v 1, .c (.int 2)]] [false], .op (.isin false) [.op .idx [.v 1, .c (.int 2)], .v 0]])]⟩
def d_is_row : DD := ⟨"is_row", ["names", "thing"], ["names", "thing"], defArgs (top 56), defScope (top 56), defBody (top 56), m_is_row⟩
def c1_days_done : ME := .cp (.v 6) (.t [(.n 6), (.n 7), (.n 8)]) .lis [.v 1] [.bo true [.op .eq [.v 7, .v 4], .op .eq [.v 8, .op .idx [.v 3, .c (.int 0)]]]]
theorem c1_days_done_o (cf : CT) (ρ : Rho) : (sem cf c1_days_done).o ρ = ((sem cf c1_days_done).v ρ).bind fun d ρ1 => .ok (.val d.1) ρ1 := rfl
theorem c1_days_done_a (cf : CT) (ρ : Rho) : (sem cf c1_days_done).a false ρ = ((sem cf c1_days_done).v ρ).bind fun d ρ1 => .ok (.val d.1) ρ1 := rfl
theorem c1_days_done_r (cf : CT) (om : List Nat) (ρ : Rho) : x1 cf om (.ret c1_days_done) ρ = ((sem cf c1_days_done).v ρ).bind fun d ρ1 => .ok (.rt d.1 d.2) ρ1 := rfl
def b1_days_done : List MS := [.asg (.n 4) (.ie (.ca "is_checked" [.v 0, .v 3] [false, false]) (.c (.str "passes")) (.c (.str "ends"))), .asg (.n 5) (c1_days_done), .app 2 (.ie (.op .ne [.v 5, .li []]) (.op .idx [.v 5, .op .neg [.c (.int 1)]]) (.c (.none)))]
def l1_days_done : MS := .forr (.n 3) .lis [.op .idx [.v 0, .c (.int 0)]] b1_days_done
def m_days_done : MDef := ⟨[false, false], 9, [2], [.asg (.n 2) (.li []),
    l1_days_done,
    .ret (.v 2)]⟩
def d_days_done : DD := ⟨"days_done", ["job", "log", "made", "part", "word", "days", "day", "one", "name"], ["job", "log"], defArgs (top 57), defScope (top 57), defBody (top 57), m_days_done⟩
def c1_need_log : ME := .cp (.ca "is_row" [.ca "names_of" [.v 0] [false], .v 2] [false, false]) (.n 2) .lis [.v 1] []
theorem c1_need_log_o (cf : CT) (ρ : Rho) : (sem cf c1_need_log).o ρ = ((sem cf c1_need_log).v ρ).bind fun d ρ1 => .ok (.val d.1) ρ1 := rfl
theorem c1_need_log_a (cf : CT) (ρ : Rho) : (sem cf c1_need_log).a false ρ = ((sem cf c1_need_log).v ρ).bind fun d ρ1 => .ok (.val d.1) ρ1 := rfl
theorem c1_need_log_r (cf : CT) (om : List Nat) (ρ : Rho) : x1 cf om (.ret c1_need_log) ρ = ((sem cf c1_need_log).v ρ).bind fun d ρ1 => .ok (.rt d.1 d.2) ρ1 := rfl
def m_need_log : MDef := ⟨[false, false], 3, [], [.exp (.ca "need_job" [.v 0] [false]),
    .ite (.bo false [.nt (.op (.isi "list") [.v 1]), .nt (.op .all [c1_need_log]), .op (.isin false) [.c (.none), .ca "days_done" [.v 0, .v 1] [false, false]]]) [.rai "NoLog"] []]⟩
def d_need_log : DD := ⟨"need_log", ["job", "log", "one"], ["job", "log"], defArgs (top 58), defScope (top 58), defBody (top 58), m_need_log⟩
def c1_months_of : ME := .cp (.op .fdiv [.v 2, .g "MONTH" (.int 20)]) (.n 2) .lis [.ca "days_done" [.v 0, .v 1] [false, false]] []
theorem c1_months_of_o (cf : CT) (ρ : Rho) : (sem cf c1_months_of).o ρ = ((sem cf c1_months_of).v ρ).bind fun d ρ1 => .ok (.val d.1) ρ1 := rfl
theorem c1_months_of_a (cf : CT) (ρ : Rho) : (sem cf c1_months_of).a false ρ = ((sem cf c1_months_of).v ρ).bind fun d ρ1 => .ok (.val d.1) ρ1 := rfl
theorem c1_months_of_r (cf : CT) (om : List Nat) (ρ : Rho) : x1 cf om (.ret c1_months_of) ρ = ((sem cf c1_months_of).v ρ).bind fun d ρ1 => .ok (.rt d.1 d.2) ρ1 := rfl
def m_months_of : MDef := ⟨[false, false], 3, [], [.ret (.op .tuple [c1_months_of])]⟩
def d_months_of : DD := ⟨"months_of", ["job", "log", "day"], ["job", "log"], defArgs (top 59), defScope (top 59), defBody (top 59), m_months_of⟩
def m_done_in : MDef := ⟨[false, false], 2, [], [.exp (.ca "need_log" [.v 0, .v 1] [false, false]),
    .ret (.ca "months_of" [.v 0, .v 1] [false, false])]⟩
def d_done_in : DD := ⟨"done_in", ["job", "log"], ["job", "log"], defArgs (top 60), defScope (top 60), defBody (top 60), m_done_in⟩
def c1_paid : ME := .cp (.op .idx [.ca "work_of" [.v 0, .v 8] [false, false], .c (.int 3)]) (.t [(.n 8), (.n 9)]) .zip [.op .idx [.v 0, .c (.int 0)], .v 3] [.op .eq [.v 9, .v 2]]
theorem c1_paid_o (cf : CT) (ρ : Rho) : (sem cf c1_paid).o ρ = ((sem cf c1_paid).v ρ).bind fun d ρ1 => .ok (.val d.1) ρ1 := rfl
theorem c1_paid_a (cf : CT) (ρ : Rho) : (sem cf c1_paid).a false ρ = ((sem cf c1_paid).v ρ).bind fun d ρ1 => .ok (.val d.1) ρ1 := rfl
theorem c1_paid_r (cf : CT) (om : List Nat) (ρ : Rho) : x1 cf om (.ret c1_paid) ρ = ((sem cf c1_paid).v ρ).bind fun d ρ1 => .ok (.rt d.1 d.2) ρ1 := rfl
def b1_paid : List MS := [.asg (.n 6) (.op .sum [c1_paid]), .aug 5 .add (.v 6), .asg (.n 7) (.ie (.op .eq [.v 2, .op .mxT [.v 3]]) (.v 5) (.op .fdiv [.op .mul [.v 6, .c (.int 9)], .c (.int 10)])), .aug 5 .sub (.v 7), .app 4 (.tu [.v 2, .v 6, .v 7])]
def l1_paid : MS := .forr (.n 2) .rng2 [.op .mnT [.v 3], .op .add [.op .mxT [.v 3], .c (.int 1)]] b1_paid
def m_paid : MDef := ⟨[false, false], 10, [4], [.exp (.ca "need_log" [.v 0, .v 1] [false, false]),
    .par [3, 4, 5] [.ca "months_of" [.v 0, .v 1] [false, false], .li [], .c (.int 0)],
    l1_paid,
    .ret (.v 4)]⟩
def d_paid : DD := ⟨"paid", ["job", "log", "month", "months", "made", "due", "done", "now", "part", "own"], ["job", "log"], defArgs (top 61), defScope (top 61), defBody (top 61), m_paid⟩
def b1__law_cell_at : List MS := [.asg (.n 2) (.op .fdiv [.v 2, .c (.int 1000003)])]
def l1__law_cell_at : MS := .forr (.n 3) .rng1 [.op .mn2 [.op .fdiv [.v 1, .op .len [.v 0]], .c (.int 60)]] b1__law_cell_at
def m__law_cell_at : MDef := ⟨[false, false], 4, [], [.ite (.op .lt [.v 1, .op .len [.v 0]]) [.ret (.op .idx [.v 0, .v 1])] [],
    .ite (.op .eq [.v 0, .li []]) [.ret (.c (.int 0))] [],
    .asg (.n 2) (.op .idx [.v 0, .op .mod [.v 1, .op .len [.v 0]]]),
    l1__law_cell_at,
    .ret (.op .add [.op .add [.op .mul [.op .idx [.v 0, .op .mod [.v 1, .op .len [.v 0]]], .c (.int 31)], .v 1], .op .mul [.v 2, .c (.int 101)]])]⟩
def d__law_cell_at : DD := ⟨"_law_cell_at", ["script", "k", "spare", "again"], ["script", "k"], defArgs (top 63), defScope (top 63), defBody (top 63), m__law_cell_at⟩
def m__law_mixed : MDef := ⟨[false, false, false], 4, [], [.asg (.n 3) (.op .mod [.op .add [.op .add [.op .mul [.ca "_law_cell_at" [.v 0, .v 1] [false, false], .c (.int 1103515245)], .op .mul [.c (.int 7919), .v 1]], .c (.int 12345)], .c (.int 2147483647)]),
    .ret (.op .mod [.op .mod [.op .mod [.op .pow [.v 3, .c (.int 5)], .c (.int 2147483647)], .c (.int 999983)], .v 2])]⟩
def d__law_mixed : DD := ⟨"_law_mixed", ["script", "k", "bound", "spun"], ["script", "k", "bound"], defArgs (top 64), defScope (top 64), defBody (top 64), m__law_mixed⟩
def m__law_draw : MDef := ⟨[false, true, false], 3, [], [.app 1 (.c (.int 0)),
    .ret (.ca "_law_mixed" [.v 0, .op .len [.v 1], .v 2] [false, false, false])]⟩
def d__law_draw : DD := ⟨"_law_draw", ["script", "town", "bound"], ["script", "town", "bound"], defArgs (top 65), defScope (top 65), defBody (top 65), m__law_draw⟩
def m__law_pick : MDef := ⟨[false, true, false], 3, [], [.ret (.op .idx [.v 2, .ca "_law_draw" [.v 0, .v 1, .op .len [.v 2]] [false, true, false]])]⟩
def d__law_pick : DD := ⟨"_law_pick", ["script", "town", "some"], ["script", "town", "some"], defArgs (top 66), defScope (top 66), defBody (top 66), m__law_pick⟩
def m__law_ask : MDef := ⟨[false, false, false], 4, [], [.tryW [.ret (.cx ["done_in", "paid"] (.v 0) [.v 1, .v 2])] 3 "_law_which"]⟩
def d__law_ask : DD := ⟨"_law_ask", ["what", "job", "log", "e"], ["what", "job", "log"], defArgs (top 68), defScope (top 68), defBody (top 68), m__law_ask⟩
def b1_law : List MS := [.asg (.n 11) (.op .add [.op .add [.sl (.op .idx [.v 4, .c (.int 3)]) [] [.v 9], .tu [.v 10]], .sl (.op .idx [.v 4, .c (.int 3)]) [.op .add [.v 9, .c (.int 1)]] []]), .app 5 (.op .add [.v 4, .li [.v 11]])]
def l1_law : MS := .forr (.t [(.n 9), (.n 10)]) .lis [.li [.tu [.c (.int 0), .op .neg [.c (.int 1)]], .tu [.c (.int 0), .c (.str "1")], .tu [.c (.int 0), .c (.bool true)], .tu [.c (.int 1), .c (.str "stops")], .tu [.c (.int 1), .c (.none)], .tu [.c (.int 2), .c (.str "z")], .tu [.c (.int 2), .c (.none)], .tu [.c (.int 0), .c (.none)]]] b1_law
def c1_law : ME := .cp (.ca "_law_ask" [.v 12, .v 3, .v 6] [false, false, false]) (.n 12) .rng1 [.c (.int 2)] []
theorem c1_law_o (cf : CT) (ρ : Rho) : (sem cf c1_law).o ρ = ((sem cf c1_law).v ρ).bind fun d ρ1 => .ok (.val d.1) ρ1 := rfl
theorem c1_law_a (cf : CT) (ρ : Rho) : (sem cf c1_law).a false ρ = ((sem cf c1_law).v ρ).bind fun d ρ1 => .ok (.val d.1) ρ1 := rfl
theorem c1_law_r (cf : CT) (om : List Nat) (ρ : Rho) : x1 cf om (.ret c1_law) ρ = ((sem cf c1_law).v ρ).bind fun d ρ1 => .ok (.rt d.1 d.2) ρ1 := rfl
def m_law : MDef := ⟨[false], 13, [1, 5], [.asg (.n 1) (.li []),
    .asg (.n 2) (.tu [.tu [.c (.str "a"), .c (.str "pad"), .tu [.c (.int 0), .c (.int 0), .c (.int 0), .c (.int 1), .c (.int 1), .c (.int 1)]], .tu [.c (.str "b"), .c (.str "post"), .tu [.c (.int 2), .c (.int 0), .c (.int 0), .c (.int 1), .c (.int 1), .c (.int 1)]]]),
    .asg (.n 3) (.tu [.v 2, .op .add [.tu [.tu [.c (.int 1), .c (.int 1), .c (.int 10), .c (.int 1)], .tu [.c (.int 1), .c (.int 1), .c (.int 7), .c (.int 0)]], .op .mul [.tu [.tu [.c (.int 1), .c (.int 1), .c (.int 1), .c (.int 0)]], .c (.int 3)]], .tu []]),
    .asg (.n 4) (.li [.tu [.c (.int 0), .c (.str "begins"), .c (.str "a")], .tu [.c (.int 0), .c (.str "ends"), .c (.str "a")], .tu [.c (.int 1), .c (.str "passes"), .c (.str "a")], .tu [.c (.int 2), .c (.str "begins"), .c (.str "b")], .tu [.c (.int 45), .c (.str "ends"), .c (.str "b")]]),
    .asg (.n 5) (.li [.c (.none), .c (.int 5), .tu [], .op .tuple [.v 4], .li [], .sl (.v 4) [] [.op .neg [.c (.int 1)]], .op .add [.sl (.v 4) [] [.c (.int 2)], .sl (.v 4) [.c (.int 3)] []], .op .add [.v 4, .li [.c (.none)]], .op .add [.v 4, .li [.tu [.c (.int 1), .c (.str "ends")]]]]),
    .app 5 (.op .add [.v 4, .li [.li [.c (.int 1), .c (.str "ends"), .c (.str "a")]]]),
    l1_law,
    .asg (.n 6) (.ca "_law_pick" [.v 0, .v 1, .v 5] [false, true, false]),
    .ite (.op .ne [c1_law, .op .mul [.li [.tu [.c (.str "refused"), .c (.int 12)]], .c (.int 2)]]) [.ret (.c (.bool false))] [],
    .ite (.bo false [.op .ne [.ca "_law_ask" [.c (.int 0), .v 3, .v 4] [false, false, false], .tu [.c (.int 0), .c (.int 2)]], .op .ne [.ca "_law_ask" [.c (.int 1), .v 3, .v 4] [false, false, false], .li [.tu [.c (.int 0), .c (.int 10), .c (.int 9)], .tu [.c (.int 1), .c (.int 0), .c (.int 0)], .tu [.c (.int 2), .c (.int 7), .c (.int 8)]]]]) [.ret (.c (.bool false))] [],
    .asg (.n 7) (.op .add [.c (.int 20), .ca "_law_draw" [.v 0, .v 1, .c (.int 60)] [false, true, false]]),
    .asg (.n 8) (.op .add [.v 4, .li [.tu [.v 7, .c (.str "fails"), .c (.str "a")], .tu [.v 7, .c (.str "ends"), .c (.str "a")], .tu [.op .add [.v 7, .c (.int 1)], .c (.str "passes"), .c (.str "a")]]]),
    .ret (.op .eq [.ca "_law_ask" [.c (.int 0), .v 3, .v 8] [false, false, false], .tu [.op .fdiv [.op .add [.v 7, .c (.int 1)], .c (.int 20)], .c (.int 2)]])]⟩
def d_law : DD := ⟨"law", ["script", "town", "pads", "job", "good", "some", "bad", "day", "later", "at", "off", "odd", "what"], ["script"], defArgs (top 69), defScope (top 69), defBody (top 69), m_law⟩
def d__law_which : DD := ⟨"_law_which", ["e", "own"], ["e"], defArgs (top 67), defScope (top 67), defBody (top 67), ⟨[], 0, [], []⟩⟩
def pg : Pg := ⟨[d_is_whole, d_is_name, d_is_box, d_is_part, d_good_drawing, d_part_of, d_top_of, d_room_of, d_side_shared, d_ground_shared, d_clash, d_rests_of, d_holds, d_carried, d_part_wrong, d_wrong_of, d_is_sound, d_is_rate, d_good_book, d_is_told, d_needs_of, d_is_straight, d_good_job, d_need_job, d_rate_of, d_work_of, d_is_checked, d_names_of, d_is_row, d_days_done, d_need_log, d_months_of, d_done_in, d_paid, d__law_cell_at, d__law_mixed, d__law_draw, d__law_pick, d__law_ask, d_law], [("HIGH", .int 3), ("KINDS", .tuple [.str "pad", .str "post", .str "wall", .str "slab", .str "roof"]), ("LETTERS", .str "abcdefghijklmnopqrstuvwxyz"), ("MONTH", .int 20), ("MOST", .int 10), ("ORDERS", .int 10), ("WORDS", .tuple [.str "fails", .str "passes", .str "begins", .str "ends"])], ["all", "any", "bool", "enumerate", "int", "isinstance", "len", "list", "max", "min", "range", "set", "sorted", "str", "sum", "tuple", "zip"], ["NoJob", "NoLog", "NoPart"], [d__law_which]⟩
theorem c_is_whole : chD pg d_is_whole = true := by decide +kernel
theorem c_is_name : chD pg d_is_name = true := by decide +kernel
theorem c_is_box : chD pg d_is_box = true := by decide +kernel
theorem c_is_part : chD pg d_is_part = true := by decide +kernel
theorem c_good_drawing : chD pg d_good_drawing = true := by decide +kernel
theorem c_part_of : chD pg d_part_of = true := by decide +kernel
theorem c_top_of : chD pg d_top_of = true := by decide +kernel
theorem c_room_of : chD pg d_room_of = true := by decide +kernel
theorem c_side_shared : chD pg d_side_shared = true := by decide +kernel
theorem c_ground_shared : chD pg d_ground_shared = true := by decide +kernel
theorem c_clash : chD pg d_clash = true := by decide +kernel
theorem c_rests_of : chD pg d_rests_of = true := by decide +kernel
theorem c_holds : chD pg d_holds = true := by decide +kernel
theorem c_carried : chD pg d_carried = true := by decide +kernel
theorem c_part_wrong : chD pg d_part_wrong = true := by decide +kernel
theorem c_wrong_of : chD pg d_wrong_of = true := by decide +kernel
theorem c_is_sound : chD pg d_is_sound = true := by decide +kernel
theorem c_is_rate : chD pg d_is_rate = true := by decide +kernel
theorem c_good_book : chD pg d_good_book = true := by decide +kernel
theorem c_is_told : chD pg d_is_told = true := by decide +kernel
theorem c_needs_of : chD pg d_needs_of = true := by decide +kernel
theorem c_is_straight : chD pg d_is_straight = true := by decide +kernel
theorem c_good_job : chD pg d_good_job = true := by decide +kernel
theorem c_need_job : chD pg d_need_job = true := by decide +kernel
theorem c_rate_of : chD pg d_rate_of = true := by decide +kernel
theorem c_work_of : chD pg d_work_of = true := by decide +kernel
theorem c_is_checked : chD pg d_is_checked = true := by decide +kernel
theorem c_names_of : chD pg d_names_of = true := by decide +kernel
theorem c_is_row : chD pg d_is_row = true := by decide +kernel
theorem c_days_done : chD pg d_days_done = true := by decide +kernel
theorem c_need_log : chD pg d_need_log = true := by decide +kernel
theorem c_months_of : chD pg d_months_of = true := by decide +kernel
theorem c_done_in : chD pg d_done_in = true := by decide +kernel
theorem c_paid : chD pg d_paid = true := by decide +kernel
theorem c__law_cell_at : chD pg d__law_cell_at = true := by decide +kernel
theorem c__law_mixed : chD pg d__law_mixed = true := by decide +kernel
theorem c__law_draw : chD pg d__law_draw = true := by decide +kernel
theorem c__law_pick : chD pg d__law_pick = true := by decide +kernel
theorem c__law_ask : chD pg d__law_ask = true := by decide +kernel
theorem c_law : chD pg d_law = true := by decide +kernel
theorem b_is_whole : BindOk d_is_whole := fun _ _ _ _ _ _ us hl => match us, hl with | [_, _, _], _ => rfl
theorem b_is_name : BindOk d_is_name := fun _ _ _ _ _ _ us hl => match us, hl with | [_], _ => rfl
theorem b_is_box : BindOk d_is_box := fun _ _ _ _ _ _ us hl => match us, hl with | [_], _ => rfl
theorem b_is_part : BindOk d_is_part := fun _ _ _ _ _ _ us hl => match us, hl with | [_], _ => rfl
theorem b_good_drawing : BindOk d_good_drawing := fun _ _ _ _ _ _ us hl => match us, hl with | [_], _ => rfl
theorem b_part_of : BindOk d_part_of := fun _ _ _ _ _ _ us hl => match us, hl with | [_, _], _ => rfl
theorem b_top_of : BindOk d_top_of := fun _ _ _ _ _ _ us hl => match us, hl with | [_], _ => rfl
theorem b_room_of : BindOk d_room_of := fun _ _ _ _ _ _ us hl => match us, hl with | [_], _ => rfl
theorem b_side_shared : BindOk d_side_shared := fun _ _ _ _ _ _ us hl => match us, hl with | [_, _, _, _], _ => rfl
theorem b_ground_shared : BindOk d_ground_shared := fun _ _ _ _ _ _ us hl => match us, hl with | [_, _], _ => rfl
theorem b_clash : BindOk d_clash := fun _ _ _ _ _ _ us hl => match us, hl with | [_, _], _ => rfl
theorem b_rests_of : BindOk d_rests_of := fun _ _ _ _ _ _ us hl => match us, hl with | [_, _], _ => rfl
theorem b_holds : BindOk d_holds := fun _ _ _ _ _ _ us hl => match us, hl with | [_, _, _], _ => rfl
theorem b_carried : BindOk d_carried := fun _ _ _ _ _ _ us hl => match us, hl with | [_, _], _ => rfl
theorem b_part_wrong : BindOk d_part_wrong := fun _ _ _ _ _ _ us hl => match us, hl with | [_, _], _ => rfl
theorem b_wrong_of : BindOk d_wrong_of := fun _ _ _ _ _ _ us hl => match us, hl with | [_], _ => rfl
theorem b_is_sound : BindOk d_is_sound := fun _ _ _ _ _ _ us hl => match us, hl with | [_], _ => rfl
theorem b_is_rate : BindOk d_is_rate := fun _ _ _ _ _ _ us hl => match us, hl with | [_], _ => rfl
theorem b_good_book : BindOk d_good_book := fun _ _ _ _ _ _ us hl => match us, hl with | [_], _ => rfl
theorem b_is_told : BindOk d_is_told := fun _ _ _ _ _ _ us hl => match us, hl with | [_, _], _ => rfl
theorem b_needs_of : BindOk d_needs_of := fun _ _ _ _ _ _ us hl => match us, hl with | [_, _], _ => rfl
theorem b_is_straight : BindOk d_is_straight := fun _ _ _ _ _ _ us hl => match us, hl with | [_], _ => rfl
theorem b_good_job : BindOk d_good_job := fun _ _ _ _ _ _ us hl => match us, hl with | [_], _ => rfl
theorem b_need_job : BindOk d_need_job := fun _ _ _ _ _ _ us hl => match us, hl with | [_], _ => rfl
theorem b_rate_of : BindOk d_rate_of := fun _ _ _ _ _ _ us hl => match us, hl with | [_, _], _ => rfl
theorem b_work_of : BindOk d_work_of := fun _ _ _ _ _ _ us hl => match us, hl with | [_, _], _ => rfl
theorem b_is_checked : BindOk d_is_checked := fun _ _ _ _ _ _ us hl => match us, hl with | [_, _], _ => rfl
theorem b_names_of : BindOk d_names_of := fun _ _ _ _ _ _ us hl => match us, hl with | [_], _ => rfl
theorem b_is_row : BindOk d_is_row := fun _ _ _ _ _ _ us hl => match us, hl with | [_, _], _ => rfl
theorem b_days_done : BindOk d_days_done := fun _ _ _ _ _ _ us hl => match us, hl with | [_, _], _ => rfl
theorem b_need_log : BindOk d_need_log := fun _ _ _ _ _ _ us hl => match us, hl with | [_, _], _ => rfl
theorem b_months_of : BindOk d_months_of := fun _ _ _ _ _ _ us hl => match us, hl with | [_, _], _ => rfl
theorem b_done_in : BindOk d_done_in := fun _ _ _ _ _ _ us hl => match us, hl with | [_, _], _ => rfl
theorem b_paid : BindOk d_paid := fun _ _ _ _ _ _ us hl => match us, hl with | [_, _], _ => rfl
theorem b__law_cell_at : BindOk d__law_cell_at := fun _ _ _ _ _ _ us hl => match us, hl with | [_, _], _ => rfl
theorem b__law_mixed : BindOk d__law_mixed := fun _ _ _ _ _ _ us hl => match us, hl with | [_, _, _], _ => rfl
theorem b__law_draw : BindOk d__law_draw := fun _ _ _ _ _ _ us hl => match us, hl with | [_, _, _], _ => rfl
theorem b__law_pick : BindOk d__law_pick := fun _ _ _ _ _ _ us hl => match us, hl with | [_, _, _], _ => rfl
theorem b__law_ask : BindOk d__law_ask := fun _ _ _ _ _ _ us hl => match us, hl with | [_, _, _], _ => rfl
theorem b_law : BindOk d_law := fun _ _ _ _ _ _ us hl => match us, hl with | [_], _ => rfl
theorem c__law_which : chW d__law_which = true := by decide +kernel
theorem b__law_which : BindOk d__law_which := fun _ _ _ _ _ _ us hl => match us, hl with | [_], _ => rfl
theorem cw : ∀ d, d ∈ pg.wh → chW d = true := by
  intro d h
  simp only [pg, List.mem_cons, List.not_mem_nil, or_false] at h; subst h; exact c__law_which
theorem nd : (pg.defs.map (·.name)).Nodup := by decide +kernel
theorem bnd : BindAll pg.all := ⟨b_is_whole, b_is_name, b_is_box, b_is_part, b_good_drawing, b_part_of, b_top_of, b_room_of, b_side_shared, b_ground_shared, b_clash, b_rests_of, b_holds, b_carried, b_part_wrong, b_wrong_of, b_is_sound, b_is_rate, b_good_book, b_is_told, b_needs_of, b_is_straight, b_good_job, b_need_job, b_rate_of, b_work_of, b_is_checked, b_names_of, b_is_row, b_days_done, b_need_log, b_months_of, b_done_in, b_paid, b__law_cell_at, b__law_mixed, b__law_draw, b__law_pick, b__law_ask, b_law, b__law_which, trivial⟩
theorem chk : ∀ d, d ∈ pg.defs → chD pg d = true := by
  intro d h
  simp only [pg, List.mem_cons, List.not_mem_nil, or_false] at h
  rcases h with h | h | h | h | h | h | h | h | h | h | h | h | h | h | h | h | h | h | h | h | h | h | h | h | h | h | h | h | h | h | h | h | h | h | h | h | h | h | h | h <;> subst h
  · exact c_is_whole
  · exact c_is_name
  · exact c_is_box
  · exact c_is_part
  · exact c_good_drawing
  · exact c_part_of
  · exact c_top_of
  · exact c_room_of
  · exact c_side_shared
  · exact c_ground_shared
  · exact c_clash
  · exact c_rests_of
  · exact c_holds
  · exact c_carried
  · exact c_part_wrong
  · exact c_wrong_of
  · exact c_is_sound
  · exact c_is_rate
  · exact c_good_book
  · exact c_is_told
  · exact c_needs_of
  · exact c_is_straight
  · exact c_good_job
  · exact c_need_job
  · exact c_rate_of
  · exact c_work_of
  · exact c_is_checked
  · exact c_names_of
  · exact c_is_row
  · exact c_days_done
  · exact c_need_log
  · exact c_months_of
  · exact c_done_in
  · exact c_paid
  · exact c__law_cell_at
  · exact c__law_mixed
  · exact c__law_draw
  · exact c__law_pick
  · exact c__law_ask
  · exact c_law
abbrev R : PySem.W.OpenRow := PySem.W.OpenLaw.row PySem.Challenge.rw_siteworks_k19_logs_refused
abbrev hk : PySem.W.Hook := hookX 4 pg
def ob (s : PySem.W.SharedT) : He.AlD := obsXG 4 pg (HandSHeadRun.getT s)
theorem ob_eq (s : PySem.W.SharedT) : ob s = hk.obs s.abs := obsXG_eq (HandSHeadRun.getT_eq s)
theorem hrun (w : World) : HandSHeadRun.RunEq R (PySem.W.view R.prog [69]) hk ob 30000 names w := by
  intro os
  kernel_rfl
end LW
end
section
set_option Elab.async false
set_option linter.all false
set_option maxRecDepth 100000
set_option maxHeartbeats 4000001
namespace LW
open PySem MP
structure HasL (T : Str → Option MDef) : Prop where
  cell_at : T "_law_cell_at" = some m__law_cell_at
  mixed : T "_law_mixed" = some m__law_mixed
  draw : T "_law_draw" = some m__law_draw
  pick : T "_law_pick" = some m__law_pick
def sc (ns : List Int) : PyData := .list (ns.map .int)
/-- the draws made so far -/
def tw (n : Nat) : PyData := .list (List.replicate n (.int 0))
theorem shaped_ints (ns : List Int) : shaped (.list (ns.map .int)) = true := by
  have h1 : ∀ l : List Int, PyData.canLayAll0 (l.map .int) = true := by
    intro l
    induction l with
    | nil => simp [PyData.canLayAll0]
    | cons a r ih => simp [PyData.canLayAll0, PyData.canLay0, ih]
  have h2 : ∀ l : List Int, PyData.depthAll (l.map .int) = 0 := by
    intro l
    induction l with
    | nil => simp [PyData.depthAll]
    | cons a r ih => simp [PyData.depthAll, PyData.depth, ih]
  unfold shaped
  rw [Bool.and_eq_true, decide_eq_true_eq]
  simp [PyData.canLay0, PyData.depth, h1, h2]
theorem nth_ints (ns : List Int) (k : Nat) (h : k < ns.length) : nth (ns.map PyData.int) (k : Int) = some (.int ns[k]) := by
  unfold nth ixN
  rw [(if_pos (by omega)), List.length_map, if_pos (by omega)]
  simp [h]
theorem small_nat {i : Int} (h0 : 0 ≤ i) (h : i ≤ 1000000) : small i = true := by
  unfold small
  rw [(Bool.and_eq_true), decide_eq_true_eq, decide_eq_true_eq]
  omega
theorem mulOk_r {a b : Int} (h1 : -(2 ^ 64) < b) (h2 : b < 2 ^ 64) : mulOk a b = true := by
  unfold mulOk
  simp only [Bool.or_eq_true, Bool.and_eq_true, decide_eq_true_eq]
  exact .inr ⟨h1, h2⟩
theorem mulOk_l {a b : Int} (h1 : -(2 ^ 64) < a) (h2 : a < 2 ^ 64) : mulOk a b = true := by
  unfold mulOk
  simp only [Bool.or_eq_true, Bool.and_eq_true, decide_eq_true_eq]
  exact .inl ⟨h1, h2⟩
theorem eqv_nil (xs : List PyData) : PyData.eqv (.list xs) (.list []) = xs.isEmpty := by
  cases xs <;> simp [PyData.eqv, PyData.eqvAll]
theorem shaped_nil : shaped (.list []) = true := by decide +kernel
section
variable {T : Str → Option MDef} (H : HasL T)
include H
theorem r_cell_at (n : Nat) (ns : List Int) (k : Nat) (hl : ns.length ≤ 63) (hk : k ≤ 100000) : ∃ c, run T (n + 1) "_law_cell_at" [.sh (sc ns), .sh (.int k)] = .ok (.int c) false [.sh (sc ns), .sh (.int k)] := by
  rw [run_at H.cell_at]
  have ll : (ns.map PyData.int).length = ns.length := List.length_map _
  by_cases h : k < ns.length
  · have h1 : ((k : Nat) : Int) < (ns.length : Nat) := by omega
    have h2 := nth_ints ns k h
    unfold nth ixN at h2
    rw [ll] at h2
    refine ⟨ns[k], ?_⟩
    unfold sc
    have h3 : ns[k]? = some ns[k] := List.getElem?_eq_getElem h
    simp [MP.runD, MP.argOk, MP.outOk, MP.xs_nil, MP.xs_c, MP.x1_asgN, MP.x1_asgT, MP.x1_par, MP.x1_aug, MP.x1_app, MP.x1_ext, MP.x1_putT, MP.x1_retv, MP.x1_ite, MP.x1_rai, MP.x1_exp, MP.x1_pass, MP.x1_retc, MP.x1_reto, MP.x1_retb, MP.x1_rett, MP.x1_reta, MP.x1_reti, MP.x1_retp, MP.sem_c, MP.sem_v, MP.sem_g, MP.sem_op, MP.sem_ch, MP.sem_sl, MP.sem_tu, MP.sem_li, MP.sem_dn, MP.sem_bo, MP.sem_nt, MP.sem_ie, MP.sem_ca, MP.sem_cx, MP.v_cx, MP.x1_retx, MP.x1_retl, MP.x1_tryW, MP.tryR_ok, MP.tryR_ex, MP.sems_nil, MP.sems_c, MP.cp_o, MP.cp_a, MP.ls_o, MP.bind_ok, MP.bind_ex, MP.bind_st, MP.optB_some, MP.optB_none, MP.evOs_nil, MP.evOs_c, MP.evs_nil, MP.evs_c, MP.evF_nil, MP.evF_c, MP.evAs_nil, MP.evAs_c, MP.mk_v, MP.mk_o, MP.mk_a, MP.mk_t, MP.v_v, MP.v_o, MP.n_o, MP.v_a0, MP.v_a1, MP.tst_eq, MP.v_op, MP.v_ch, MP.v_sl, MP.evI, MP.v_tu, MP.v_li, MP.boS, MP.andS, MP.orS, MP.v_an, MP.v_or, MP.t_an, MP.t_or, MP.v_nt, MP.t_nt, MP.v_ie, MP.opdV, MP.valV, MP.ioV, MP.frzOk, MP.rdOs, MP.rdO, MP.rdSl, MP.prim, MP.sh_int, MP.sh_str, MP.sh_bool, MP.eqv_int, MP.eqv_str, MP.pidx_l, MP.pidx_t, MP.prim1, MP.primA, MP.primM, MP.primCmp, MP.primIn, MP.nth, MP.ixN, MP.truth, MP.tyIs, MP.sConst, MP.own2, MP.own1, MP.setSl, MP.bindTg, MP.bindTgs, MP.tgSlots, MP.tgsSlots, MP.wipeR, MP.turnC, MP.cTurn, MP.fTurn, MP.evC, MP.v_ca, MP.callR, MP.slotsOf, MP.nodup, MP.argsOf, MP.back, MP.frOp, MP.chg, MP.augI, MP.appI, MP.extI, MP.putTI, MP.evK, MP.itemsI, MP.itemsOf, MP.lockO, MP.unlockO, m__law_cell_at, h1, h, h3]
  · have h1 : ¬ ((k : Nat) : Int) < (ns.length : Nat) := by omega
    cases hn : ns with
    | nil =>
      refine ⟨0, ?_⟩
      unfold sc
      have s0 := shaped_nil
      have hb : big = 16777216 := rfl
      have e0 := eqv_nil []
      have hk0 : ¬ ((k : Nat) : Int) < 0 := by omega
      simp [MP.runD, MP.argOk, MP.outOk, MP.xs_nil, MP.xs_c, MP.x1_asgN, MP.x1_asgT, MP.x1_par, MP.x1_aug, MP.x1_app, MP.x1_ext, MP.x1_putT, MP.x1_retv, MP.x1_ite, MP.x1_rai, MP.x1_exp, MP.x1_pass, MP.x1_retc, MP.x1_reto, MP.x1_retb, MP.x1_rett, MP.x1_reta, MP.x1_reti, MP.x1_retp, MP.sem_c, MP.sem_v, MP.sem_g, MP.sem_op, MP.sem_ch, MP.sem_sl, MP.sem_tu, MP.sem_li, MP.sem_dn, MP.sem_bo, MP.sem_nt, MP.sem_ie, MP.sem_ca, MP.sem_cx, MP.v_cx, MP.x1_retx, MP.x1_retl, MP.x1_tryW, MP.tryR_ok, MP.tryR_ex, MP.sems_nil, MP.sems_c, MP.cp_o, MP.cp_a, MP.ls_o, MP.bind_ok, MP.bind_ex, MP.bind_st, MP.optB_some, MP.optB_none, MP.evOs_nil, MP.evOs_c, MP.evs_nil, MP.evs_c, MP.evF_nil, MP.evF_c, MP.evAs_nil, MP.evAs_c, MP.mk_v, MP.mk_o, MP.mk_a, MP.mk_t, MP.v_v, MP.v_o, MP.n_o, MP.v_a0, MP.v_a1, MP.tst_eq, MP.v_op, MP.v_ch, MP.v_sl, MP.evI, MP.v_tu, MP.v_li, MP.boS, MP.andS, MP.orS, MP.v_an, MP.v_or, MP.t_an, MP.t_or, MP.v_nt, MP.t_nt, MP.v_ie, MP.opdV, MP.valV, MP.ioV, MP.frzOk, MP.rdOs, MP.rdO, MP.rdSl, MP.prim, MP.sh_int, MP.sh_str, MP.sh_bool, MP.eqv_int, MP.eqv_str, MP.pidx_l, MP.pidx_t, MP.prim1, MP.primA, MP.primM, MP.primCmp, MP.primIn, MP.nth, MP.ixN, MP.truth, MP.tyIs, MP.sConst, MP.own2, MP.own1, MP.setSl, MP.bindTg, MP.bindTgs, MP.tgSlots, MP.tgsSlots, MP.wipeR, MP.turnC, MP.cTurn, MP.fTurn, MP.evC, MP.v_ca, MP.callR, MP.slotsOf, MP.nodup, MP.argsOf, MP.back, MP.frOp, MP.chg, MP.augI, MP.appI, MP.extI, MP.putTI, MP.evK, MP.itemsI, MP.itemsOf, MP.lockO, MP.unlockO, m__law_cell_at, s0, e0, hb, hk0]
    | cons a r =>
      rw [← hn]
      have hpos : 0 < ns.length := by rw [hn]; simp
      have s1 := shaped_ints ns
      have e0 := eqv_nil (ns.map PyData.int)
      have e0' : (ns.map PyData.int).isEmpty = false := by rw [hn]; rfl
      rw [e0'] at e0
      have hb : big = 16777216 := rfl
      have hpi : (0 : Int) < (ns.length : Nat) := by omega
      have hpi2 : ((ns.length : Nat) : Int) < 1073741824 := by omega
      have hm0 : 0 ≤ ((k : Nat) : Int) % (ns.length : Nat) := Int.emod_nonneg _ (by omega)
      have hm1 : ((k : Nat) : Int) % (ns.length : Nat) < (ns.length : Nat) := Int.emod_lt_of_pos _ hpi
      have hq0 : 0 ≤ ((k : Nat) : Int) / (ns.length : Nat) := Int.ediv_nonneg (by omega) (by omega)
      obtain ⟨c, hc⟩ : ∃ c : Int, (ns.map PyData.int)[(((k : Nat) : Int) % (ns.length : Nat)).toNat]? = some (.int c) := by
        have hlt : (((k : Nat) : Int) % (ns.length : Nat)).toNat < ns.length := by omega
        exact ⟨ns[(((k : Nat) : Int) % (ns.length : Nat)).toNat], by rw [List.getElem?_map, List.getElem?_eq_getElem hlt]; rfl⟩
      unfold sc
      rw [← ll] at hl h h1 hpos hpi hpi2 hm0 hm1 hq0 hc
      clear hn
      generalize ns.map PyData.int = xs at *
      generalize hq : ((k : Nat) : Int) / (xs.length : Nat) = q at *
      generalize hi : ((k : Nat) : Int) % (xs.length : Nat) = m at *
      have hq1 : q ≤ 100000 := by
        rw [← hq]
        exact Int.le_trans (Int.ediv_le_self _ (by omega)) (by omega)
      obtain ⟨z, hz, hz0, hz1⟩ : ∃ z : Int, (if (60 : Int) < q then 60 else q) = z ∧ 0 ≤ z ∧ z ≤ 60 := ⟨_, rfl, by split <;> omega, by split <;> omega⟩
      have hj : small z = true := small_nat hz0 (by omega)
      obtain ⟨ρ', f1, s, i, hs, h3⟩ := forL_rng (f := fTurn (run T n) [] (.n 3) b1__law_cell_at) (lo := 0) (n := z.toNat) (ρ := [.sh (.list xs), .sh (.int k), .sh (.int c), .no])
        (I := fun _ ρ => ∃ s i, plainS s ∧ ρ = [.sh (.list xs), .sh (.int k), .sh (.int i), s]) (fun j ρ _ ⟨s, i, hs, h⟩ => by
          subst h
          refine ⟨_, ?_, .sh (.int (0 + j)), i / 1000003, trivial, rfl⟩
          rcases plain_cases hs with rfl | ⟨d, rfl⟩ <;> simp [MP.runD, MP.argOk, MP.outOk, MP.xs_nil, MP.xs_c, MP.x1_asgN, MP.x1_asgT, MP.x1_par, MP.x1_aug, MP.x1_app, MP.x1_ext, MP.x1_putT, MP.x1_retv, MP.x1_ite, MP.x1_rai, MP.x1_exp, MP.x1_pass, MP.x1_retc, MP.x1_reto, MP.x1_retb, MP.x1_rett, MP.x1_reta, MP.x1_reti, MP.x1_retp, MP.sem_c, MP.sem_v, MP.sem_g, MP.sem_op, MP.sem_ch, MP.sem_sl, MP.sem_tu, MP.sem_li, MP.sem_dn, MP.sem_bo, MP.sem_nt, MP.sem_ie, MP.sem_ca, MP.sem_cx, MP.v_cx, MP.x1_retx, MP.x1_retl, MP.x1_tryW, MP.tryR_ok, MP.tryR_ex, MP.sems_nil, MP.sems_c, MP.cp_o, MP.cp_a, MP.ls_o, MP.bind_ok, MP.bind_ex, MP.bind_st, MP.optB_some, MP.optB_none, MP.evOs_nil, MP.evOs_c, MP.evs_nil, MP.evs_c, MP.evF_nil, MP.evF_c, MP.evAs_nil, MP.evAs_c, MP.mk_v, MP.mk_o, MP.mk_a, MP.mk_t, MP.v_v, MP.v_o, MP.n_o, MP.v_a0, MP.v_a1, MP.tst_eq, MP.v_op, MP.v_ch, MP.v_sl, MP.evI, MP.v_tu, MP.v_li, MP.boS, MP.andS, MP.orS, MP.v_an, MP.v_or, MP.t_an, MP.t_or, MP.v_nt, MP.t_nt, MP.v_ie, MP.opdV, MP.valV, MP.ioV, MP.frzOk, MP.rdOs, MP.rdO, MP.rdSl, MP.prim, MP.sh_int, MP.sh_str, MP.sh_bool, MP.eqv_int, MP.eqv_str, MP.pidx_l, MP.pidx_t, MP.prim1, MP.primA, MP.primM, MP.primCmp, MP.primIn, MP.nth, MP.ixN, MP.truth, MP.tyIs, MP.sConst, MP.own2, MP.own1, MP.setSl, MP.bindTg, MP.bindTgs, MP.tgSlots, MP.tgsSlots, MP.wipeR, MP.turnC, MP.cTurn, MP.fTurn, MP.evC, MP.v_ca, MP.callR, MP.slotsOf, MP.nodup, MP.argsOf, MP.back, MP.frOp, MP.chg, MP.augI, MP.appI, MP.extI, MP.putTI, MP.evK, MP.itemsI, MP.itemsOf, MP.lockO, MP.unlockO, b1__law_cell_at]) ⟨.no, _, trivial, rfl⟩
      subst h3
      have e1 : x1 (run T n) [] l1__law_cell_at [.sh (.list xs), .sh (.int k), .sh (.int c), .no] = .ok .nx [.sh (.list xs), .sh (.int k), .sh (.int i), s] := by
        refine x1_for (ρ1 := [.sh (.list xs), .sh (.int k), .sh (.int c), .no]) (os := [.val (.int z)]) ?_ ?_ f1 rfl
        · simp [MP.runD, MP.argOk, MP.outOk, MP.xs_nil, MP.xs_c, MP.x1_asgN, MP.x1_asgT, MP.x1_par, MP.x1_aug, MP.x1_app, MP.x1_ext, MP.x1_putT, MP.x1_retv, MP.x1_ite, MP.x1_rai, MP.x1_exp, MP.x1_pass, MP.x1_retc, MP.x1_reto, MP.x1_retb, MP.x1_rett, MP.x1_reta, MP.x1_reti, MP.x1_retp, MP.sem_c, MP.sem_v, MP.sem_g, MP.sem_op, MP.sem_ch, MP.sem_sl, MP.sem_tu, MP.sem_li, MP.sem_dn, MP.sem_bo, MP.sem_nt, MP.sem_ie, MP.sem_ca, MP.sem_cx, MP.v_cx, MP.x1_retx, MP.x1_retl, MP.x1_tryW, MP.tryR_ok, MP.tryR_ex, MP.sems_nil, MP.sems_c, MP.cp_o, MP.cp_a, MP.ls_o, MP.bind_ok, MP.bind_ex, MP.bind_st, MP.optB_some, MP.optB_none, MP.evOs_nil, MP.evOs_c, MP.evs_nil, MP.evs_c, MP.evF_nil, MP.evF_c, MP.evAs_nil, MP.evAs_c, MP.mk_v, MP.mk_o, MP.mk_a, MP.mk_t, MP.v_v, MP.v_o, MP.n_o, MP.v_a0, MP.v_a1, MP.tst_eq, MP.v_op, MP.v_ch, MP.v_sl, MP.evI, MP.v_tu, MP.v_li, MP.boS, MP.andS, MP.orS, MP.v_an, MP.v_or, MP.t_an, MP.t_or, MP.v_nt, MP.t_nt, MP.v_ie, MP.opdV, MP.valV, MP.ioV, MP.frzOk, MP.rdOs, MP.rdO, MP.rdSl, MP.prim, MP.sh_int, MP.sh_str, MP.sh_bool, MP.eqv_int, MP.eqv_str, MP.pidx_l, MP.pidx_t, MP.prim1, MP.primA, MP.primM, MP.primCmp, MP.primIn, MP.nth, MP.ixN, MP.truth, MP.tyIs, MP.sConst, MP.own2, MP.own1, MP.setSl, MP.bindTg, MP.bindTgs, MP.tgSlots, MP.tgsSlots, MP.wipeR, MP.turnC, MP.cTurn, MP.fTurn, MP.evC, MP.v_ca, MP.callR, MP.slotsOf, MP.nodup, MP.argsOf, MP.back, MP.frOp, MP.chg, MP.augI, MP.appI, MP.extI, MP.putTI, MP.evK, MP.itemsI, MP.itemsOf, MP.lockO, MP.unlockO, hq, hpos, hpi, hpi2, hz]
        · show (if small _ = true then some (rangeD 0 _) else none) = _
          rw [if_pos hj]
      have m1 : mulOk c 31 = true := mulOk_r (by decide) (by decide)
      have m2 : mulOk i 101 = true := mulOk_r (by decide) (by decide)
      have hcc : xs[m.toNat]'(by omega) = .int c := (List.getElem?_eq_some_iff.mp hc).2
      refine ⟨c * 31 + k + i * 101, ?_⟩
      simp [MP.runD, MP.argOk, MP.outOk, MP.xs_nil, MP.xs_c, MP.x1_asgN, MP.x1_asgT, MP.x1_par, MP.x1_aug, MP.x1_app, MP.x1_ext, MP.x1_putT, MP.x1_retv, MP.x1_ite, MP.x1_rai, MP.x1_exp, MP.x1_pass, MP.x1_retc, MP.x1_reto, MP.x1_retb, MP.x1_rett, MP.x1_reta, MP.x1_reti, MP.x1_retp, MP.sem_c, MP.sem_v, MP.sem_g, MP.sem_op, MP.sem_ch, MP.sem_sl, MP.sem_tu, MP.sem_li, MP.sem_dn, MP.sem_bo, MP.sem_nt, MP.sem_ie, MP.sem_ca, MP.sem_cx, MP.v_cx, MP.x1_retx, MP.x1_retl, MP.x1_tryW, MP.tryR_ok, MP.tryR_ex, MP.sems_nil, MP.sems_c, MP.cp_o, MP.cp_a, MP.ls_o, MP.bind_ok, MP.bind_ex, MP.bind_st, MP.optB_some, MP.optB_none, MP.evOs_nil, MP.evOs_c, MP.evs_nil, MP.evs_c, MP.evF_nil, MP.evF_c, MP.evAs_nil, MP.evAs_c, MP.mk_v, MP.mk_o, MP.mk_a, MP.mk_t, MP.v_v, MP.v_o, MP.n_o, MP.v_a0, MP.v_a1, MP.tst_eq, MP.v_op, MP.v_ch, MP.v_sl, MP.evI, MP.v_tu, MP.v_li, MP.boS, MP.andS, MP.orS, MP.v_an, MP.v_or, MP.t_an, MP.t_or, MP.v_nt, MP.t_nt, MP.v_ie, MP.opdV, MP.valV, MP.ioV, MP.frzOk, MP.rdOs, MP.rdO, MP.rdSl, MP.prim, MP.sh_int, MP.sh_str, MP.sh_bool, MP.eqv_int, MP.eqv_str, MP.pidx_l, MP.pidx_t, MP.prim1, MP.primA, MP.primM, MP.primCmp, MP.primIn, MP.nth, MP.ixN, MP.truth, MP.tyIs, MP.sConst, MP.own2, MP.own1, MP.setSl, MP.bindTg, MP.bindTgs, MP.tgSlots, MP.tgsSlots, MP.wipeR, MP.turnC, MP.cTurn, MP.fTurn, MP.evC, MP.v_ca, MP.callR, MP.slotsOf, MP.nodup, MP.argsOf, MP.back, MP.frOp, MP.chg, MP.augI, MP.appI, MP.extI, MP.putTI, MP.evK, MP.itemsI, MP.itemsOf, MP.lockO, MP.unlockO, m__law_cell_at, h1, h, s1, shaped_nil, e0, hb, hi, hm0, hm1, hpi, hpos, hc, hcc, e1, m1, m2]
theorem r_mixed (n : Nat) (ns : List Int) (k : Nat) (b : Int) (hl : ns.length ≤ 63) (hk : k ≤ 100000) (hb : 0 < b) : ∃ r, 0 ≤ r ∧ r < b ∧ run T (n + 2) "_law_mixed" [.sh (sc ns), .sh (.int k), .sh (.int b)] = .ok (.int r) false [.sh (sc ns), .sh (.int k), .sh (.int b)] := by
  rw [run_at H.mixed]
  obtain ⟨c, e1⟩ := r_cell_at H n ns k hl hk
  have m1 : mulOk c 1103515245 = true := mulOk_r (by decide) (by decide)
  have m2 : mulOk 7919 (k : Int) = true := mulOk_l (by decide) (by decide)
  have p1 : 0 ≤ (c * 1103515245 + 7919 * (k : Int) + 12345) % 2147483647 := Int.emod_nonneg _ (by decide)
  have p2 : (c * 1103515245 + 7919 * (k : Int) + 12345) % 2147483647 < 2147483647 := Int.emod_lt_of_pos _ (by decide)
  have p3 : ((c * 1103515245 + 7919 * (k : Int) + 12345) % 2147483647).natAbs < 2 ^ 64 := by omega
  refine ⟨((c * 1103515245 + 7919 * (k : Int) + 12345) % 2147483647) ^ 5 % 2147483647 % 999983 % b, Int.emod_nonneg _ (by omega), Int.emod_lt_of_pos _ hb, ?_⟩
  · generalize hg : (c * 1103515245 + 7919 * (k : Int) + 12345) % 2147483647 = g at *
    have p3' : g.natAbs < 18446744073709551616 := p3
    simp [MP.runD, MP.argOk, MP.outOk, MP.xs_nil, MP.xs_c, MP.x1_asgN, MP.x1_asgT, MP.x1_par, MP.x1_aug, MP.x1_app, MP.x1_ext, MP.x1_putT, MP.x1_retv, MP.x1_ite, MP.x1_rai, MP.x1_exp, MP.x1_pass, MP.x1_retc, MP.x1_reto, MP.x1_retb, MP.x1_rett, MP.x1_reta, MP.x1_reti, MP.x1_retp, MP.sem_c, MP.sem_v, MP.sem_g, MP.sem_op, MP.sem_ch, MP.sem_sl, MP.sem_tu, MP.sem_li, MP.sem_dn, MP.sem_bo, MP.sem_nt, MP.sem_ie, MP.sem_ca, MP.sem_cx, MP.v_cx, MP.x1_retx, MP.x1_retl, MP.x1_tryW, MP.tryR_ok, MP.tryR_ex, MP.sems_nil, MP.sems_c, MP.cp_o, MP.cp_a, MP.ls_o, MP.bind_ok, MP.bind_ex, MP.bind_st, MP.optB_some, MP.optB_none, MP.evOs_nil, MP.evOs_c, MP.evs_nil, MP.evs_c, MP.evF_nil, MP.evF_c, MP.evAs_nil, MP.evAs_c, MP.mk_v, MP.mk_o, MP.mk_a, MP.mk_t, MP.v_v, MP.v_o, MP.n_o, MP.v_a0, MP.v_a1, MP.tst_eq, MP.v_op, MP.v_ch, MP.v_sl, MP.evI, MP.v_tu, MP.v_li, MP.boS, MP.andS, MP.orS, MP.v_an, MP.v_or, MP.t_an, MP.t_or, MP.v_nt, MP.t_nt, MP.v_ie, MP.opdV, MP.valV, MP.ioV, MP.frzOk, MP.rdOs, MP.rdO, MP.rdSl, MP.prim, MP.sh_int, MP.sh_str, MP.sh_bool, MP.eqv_int, MP.eqv_str, MP.pidx_l, MP.pidx_t, MP.prim1, MP.primA, MP.primM, MP.primCmp, MP.primIn, MP.nth, MP.ixN, MP.truth, MP.tyIs, MP.sConst, MP.own2, MP.own1, MP.setSl, MP.bindTg, MP.bindTgs, MP.tgSlots, MP.tgsSlots, MP.wipeR, MP.turnC, MP.cTurn, MP.fTurn, MP.evC, MP.v_ca, MP.callR, MP.slotsOf, MP.nodup, MP.argsOf, MP.back, MP.frOp, MP.chg, MP.augI, MP.appI, MP.extI, MP.putTI, MP.evK, MP.itemsI, MP.itemsOf, MP.lockO, MP.unlockO, m__law_mixed, e1, m1, m2, hg, p3, p3', hb]
theorem r_draw (n : Nat) (ns : List Int) (k : Nat) (b : Int) (hl : ns.length ≤ 63) (hk : k ≤ 90000) (hb : 0 < b) : ∃ r, 0 ≤ r ∧ r < b ∧ run T (n + 3) "_law_draw" [.sh (sc ns), .mu false (tw k), .sh (.int b)] = .ok (.int r) false [.sh (sc ns), .mu false (tw (k + 1)), .sh (.int b)] := by
  rw [run_at H.draw]
  obtain ⟨r, h0, h1, e1⟩ := r_mixed H n ns (k + 1) b hl (by omega) hb
  have hk2 : k < 16777216 := by omega
  have hbig : big = 16777216 := rfl
  have e2 : List.replicate k (PyData.int 0) ++ [.int 0] = List.replicate (k + 1) (.int 0) := (List.replicate_succ').symm
  refine ⟨r, h0, h1, ?_⟩
  unfold tw
  have e1' : run T (n + 2) "_law_mixed" [.sh (sc ns), .sh (.int ((k : Int) + 1)), .sh (.int b)] = .ok (.int r) false [.sh (sc ns), .sh (.int ((k : Int) + 1)), .sh (.int b)] := by
    have : ((k + 1 : Nat) : Int) = (k : Int) + 1 := by omega
    rw [← this]
    exact e1
  simp [MP.runD, MP.argOk, MP.outOk, MP.xs_nil, MP.xs_c, MP.x1_asgN, MP.x1_asgT, MP.x1_par, MP.x1_aug, MP.x1_app, MP.x1_ext, MP.x1_putT, MP.x1_retv, MP.x1_ite, MP.x1_rai, MP.x1_exp, MP.x1_pass, MP.x1_retc, MP.x1_reto, MP.x1_retb, MP.x1_rett, MP.x1_reta, MP.x1_reti, MP.x1_retp, MP.sem_c, MP.sem_v, MP.sem_g, MP.sem_op, MP.sem_ch, MP.sem_sl, MP.sem_tu, MP.sem_li, MP.sem_dn, MP.sem_bo, MP.sem_nt, MP.sem_ie, MP.sem_ca, MP.sem_cx, MP.v_cx, MP.x1_retx, MP.x1_retl, MP.x1_tryW, MP.tryR_ok, MP.tryR_ex, MP.sems_nil, MP.sems_c, MP.cp_o, MP.cp_a, MP.ls_o, MP.bind_ok, MP.bind_ex, MP.bind_st, MP.optB_some, MP.optB_none, MP.evOs_nil, MP.evOs_c, MP.evs_nil, MP.evs_c, MP.evF_nil, MP.evF_c, MP.evAs_nil, MP.evAs_c, MP.mk_v, MP.mk_o, MP.mk_a, MP.mk_t, MP.v_v, MP.v_o, MP.n_o, MP.v_a0, MP.v_a1, MP.tst_eq, MP.v_op, MP.v_ch, MP.v_sl, MP.evI, MP.v_tu, MP.v_li, MP.boS, MP.andS, MP.orS, MP.v_an, MP.v_or, MP.t_an, MP.t_or, MP.v_nt, MP.t_nt, MP.v_ie, MP.opdV, MP.valV, MP.ioV, MP.frzOk, MP.rdOs, MP.rdO, MP.rdSl, MP.prim, MP.sh_int, MP.sh_str, MP.sh_bool, MP.eqv_int, MP.eqv_str, MP.pidx_l, MP.pidx_t, MP.prim1, MP.primA, MP.primM, MP.primCmp, MP.primIn, MP.nth, MP.ixN, MP.truth, MP.tyIs, MP.sConst, MP.own2, MP.own1, MP.setSl, MP.bindTg, MP.bindTgs, MP.tgSlots, MP.tgsSlots, MP.wipeR, MP.turnC, MP.cTurn, MP.fTurn, MP.evC, MP.v_ca, MP.callR, MP.slotsOf, MP.nodup, MP.argsOf, MP.back, MP.frOp, MP.chg, MP.augI, MP.appI, MP.extI, MP.putTI, MP.evK, MP.itemsI, MP.itemsOf, MP.lockO, MP.unlockO, m__law_draw, e1', hk2, hbig, e2]
theorem r_pick (n : Nat) (ns : List Int) (k : Nat) (xs : List PyData) (hl : ns.length ≤ 63) (hk : k ≤ 90000) (hb : 0 < xs.length) : ∃ d, d ∈ xs ∧ run T (n + 4) "_law_pick" [.sh (sc ns), .mu false (tw k), .sh (.list xs)] = .ok d false [.sh (sc ns), .mu false (tw (k + 1)), .sh (.list xs)] := by
  rw [run_at H.pick]
  obtain ⟨r, h0, h1, e1⟩ := r_draw H n ns k xs.length hl hk (by omega)
  have hlt : r.toNat < xs.length := by omega
  refine ⟨xs[r.toNat], List.getElem_mem _, ?_⟩
  simp [MP.runD, MP.argOk, MP.outOk, MP.xs_nil, MP.xs_c, MP.x1_asgN, MP.x1_asgT, MP.x1_par, MP.x1_aug, MP.x1_app, MP.x1_ext, MP.x1_putT, MP.x1_retv, MP.x1_ite, MP.x1_rai, MP.x1_exp, MP.x1_pass, MP.x1_retc, MP.x1_reto, MP.x1_retb, MP.x1_rett, MP.x1_reta, MP.x1_reti, MP.x1_retp, MP.sem_c, MP.sem_v, MP.sem_g, MP.sem_op, MP.sem_ch, MP.sem_sl, MP.sem_tu, MP.sem_li, MP.sem_dn, MP.sem_bo, MP.sem_nt, MP.sem_ie, MP.sem_ca, MP.sem_cx, MP.v_cx, MP.x1_retx, MP.x1_retl, MP.x1_tryW, MP.tryR_ok, MP.tryR_ex, MP.sems_nil, MP.sems_c, MP.cp_o, MP.cp_a, MP.ls_o, MP.bind_ok, MP.bind_ex, MP.bind_st, MP.optB_some, MP.optB_none, MP.evOs_nil, MP.evOs_c, MP.evs_nil, MP.evs_c, MP.evF_nil, MP.evF_c, MP.evAs_nil, MP.evAs_c, MP.mk_v, MP.mk_o, MP.mk_a, MP.mk_t, MP.v_v, MP.v_o, MP.n_o, MP.v_a0, MP.v_a1, MP.tst_eq, MP.v_op, MP.v_ch, MP.v_sl, MP.evI, MP.v_tu, MP.v_li, MP.boS, MP.andS, MP.orS, MP.v_an, MP.v_or, MP.t_an, MP.t_or, MP.v_nt, MP.t_nt, MP.v_ie, MP.opdV, MP.valV, MP.ioV, MP.frzOk, MP.rdOs, MP.rdO, MP.rdSl, MP.prim, MP.sh_int, MP.sh_str, MP.sh_bool, MP.eqv_int, MP.eqv_str, MP.pidx_l, MP.pidx_t, MP.prim1, MP.primA, MP.primM, MP.primCmp, MP.primIn, MP.nth, MP.ixN, MP.truth, MP.tyIs, MP.sConst, MP.own2, MP.own1, MP.setSl, MP.bindTg, MP.bindTgs, MP.tgSlots, MP.tgsSlots, MP.wipeR, MP.turnC, MP.cTurn, MP.fTurn, MP.evC, MP.v_ca, MP.callR, MP.slotsOf, MP.nodup, MP.argsOf, MP.back, MP.frOp, MP.chg, MP.augI, MP.appI, MP.extI, MP.putTI, MP.evK, MP.itemsI, MP.itemsOf, MP.lockO, MP.unlockO, m__law_pick, e1, h0, h1, hlt]
theorem r_pickT (n : Nat) (ns : List Int) (k : Nat) (xs : List PyData) (hl : ns.length ≤ 63) (hk : k ≤ 90000) (hb : 0 < xs.length) : ∃ d, d ∈ xs ∧ run T (n + 4) "_law_pick" [.sh (sc ns), .mu false (tw k), .sh (.tuple xs)] = .ok d false [.sh (sc ns), .mu false (tw (k + 1)), .sh (.tuple xs)] := by
  rw [run_at H.pick]
  obtain ⟨r, h0, h1, e1⟩ := r_draw H n ns k xs.length hl hk (by omega)
  have hlt : r.toNat < xs.length := by omega
  refine ⟨xs[r.toNat], List.getElem_mem _, ?_⟩
  simp [MP.runD, MP.argOk, MP.outOk, MP.xs_nil, MP.xs_c, MP.x1_asgN, MP.x1_asgT, MP.x1_par, MP.x1_aug, MP.x1_app, MP.x1_ext, MP.x1_putT, MP.x1_retv, MP.x1_ite, MP.x1_rai, MP.x1_exp, MP.x1_pass, MP.x1_retc, MP.x1_reto, MP.x1_retb, MP.x1_rett, MP.x1_reta, MP.x1_reti, MP.x1_retp, MP.sem_c, MP.sem_v, MP.sem_g, MP.sem_op, MP.sem_ch, MP.sem_sl, MP.sem_tu, MP.sem_li, MP.sem_dn, MP.sem_bo, MP.sem_nt, MP.sem_ie, MP.sem_ca, MP.sem_cx, MP.v_cx, MP.x1_retx, MP.x1_retl, MP.x1_tryW, MP.tryR_ok, MP.tryR_ex, MP.sems_nil, MP.sems_c, MP.cp_o, MP.cp_a, MP.ls_o, MP.bind_ok, MP.bind_ex, MP.bind_st, MP.optB_some, MP.optB_none, MP.evOs_nil, MP.evOs_c, MP.evs_nil, MP.evs_c, MP.evF_nil, MP.evF_c, MP.evAs_nil, MP.evAs_c, MP.mk_v, MP.mk_o, MP.mk_a, MP.mk_t, MP.v_v, MP.v_o, MP.n_o, MP.v_a0, MP.v_a1, MP.tst_eq, MP.v_op, MP.v_ch, MP.v_sl, MP.evI, MP.v_tu, MP.v_li, MP.boS, MP.andS, MP.orS, MP.v_an, MP.v_or, MP.t_an, MP.t_or, MP.v_nt, MP.t_nt, MP.v_ie, MP.opdV, MP.valV, MP.ioV, MP.frzOk, MP.rdOs, MP.rdO, MP.rdSl, MP.prim, MP.sh_int, MP.sh_str, MP.sh_bool, MP.eqv_int, MP.eqv_str, MP.pidx_l, MP.pidx_t, MP.prim1, MP.primA, MP.primM, MP.primCmp, MP.primIn, MP.nth, MP.ixN, MP.truth, MP.tyIs, MP.sConst, MP.own2, MP.own1, MP.setSl, MP.bindTg, MP.bindTgs, MP.tgSlots, MP.tgsSlots, MP.wipeR, MP.turnC, MP.cTurn, MP.fTurn, MP.evC, MP.v_ca, MP.callR, MP.slotsOf, MP.nodup, MP.argsOf, MP.back, MP.frOp, MP.chg, MP.augI, MP.appI, MP.extI, MP.putTI, MP.evK, MP.itemsI, MP.itemsOf, MP.lockO, MP.unlockO, m__law_pick, e1, h0, h1, hlt]
end
end LW
end
section
set_option Elab.async false
set_option linter.all false
set_option maxRecDepth 100000
set_option maxHeartbeats 4000001
namespace LW
open PySem MP
theorem hasL : HasL pg.T := ⟨rfl, rfl, rfl, rfl⟩
/-- a call's end, told by a bool -/
def slsB : Rho → List PyData → Bool
  | [], [] => true
  | .sh d :: r, e :: q => dEq d e && slsB r q
  | _, _ => false
theorem slsB_ok : ∀ {r : Rho} {q : List PyData}, slsB r q = true → r = q.map .sh
  | [], [], _ => rfl
  | .sh d :: r, e :: q, h => by
    simp only [slsB, Bool.and_eq_true] at h
    rw [dEq_ok h.1, slsB_ok h.2, List.map_cons]
  | .no :: _, _, h => by simp [slsB] at h
  | .mu _ _ :: _, _, h => by simp [slsB] at h
  | .lk _ _ :: _, _, h => by simp [slsB] at h
  | [], _ :: _, h => by cases h
  | .sh _ :: _, [], h => by cases h
def crB (r : CR) (fr : Bool) (d : PyData) (as : List PyData) : Bool := match r with
  | .ok e f outs => (dEq e d && f == fr) && slsB outs as
  | _ => false
theorem crB_ok {r : CR} {fr : Bool} {d : PyData} {as : List PyData} (h : crB r fr d as = true) : r = .ok d fr (as.map .sh) := by
  unfold crB at h
  split at h
  · rw [Bool.and_eq_true, Bool.and_eq_true] at h
    rw [dEq_ok h.1.1, eq_of_beq h.1.2, slsB_ok h.2]
  · cases h
def job0 : PyData := .tuple [.tuple [.tuple [.str "a", .str "pad", .tuple [.int 0, .int 0, .int 0, .int 1, .int 1, .int 1]], .tuple [.str "b", .str "post", .tuple [.int 2, .int 0, .int 0, .int 1, .int 1, .int 1]]],
  .tuple [.tuple [.int 1, .int 1, .int 10, .int 1], .tuple [.int 1, .int 1, .int 7, .int 0], .tuple [.int 1, .int 1, .int 1, .int 0], .tuple [.int 1, .int 1, .int 1, .int 0], .tuple [.int 1, .int 1, .int 1, .int 0]], .tuple []]
def row3 (i : Int) (a b : Str) : PyData := .tuple [.int i, .str a, .str b]
def good0 : List PyData := [row3 0 "begins" "a", row3 0 "ends" "a", row3 1 "passes" "a", row3 2 "begins" "b", row3 45 "ends" "b"]
def odds : List PyData := [.tuple [.int (-1), .str "begins", .str "b"], .tuple [.str "1", .str "begins", .str "b"], .tuple [.bool true, .str "begins", .str "b"], .tuple [.int 2, .str "stops", .str "b"], .tuple [.int 2, .none, .str "b"], .tuple [.int 2, .str "begins", .str "z"], .tuple [.int 2, .str "begins", .none], .tuple [.none, .str "begins", .str "b"]]
def somes : List PyData := [.none, .int 5, .tuple [], .tuple good0, .list [], .list (good0.take 4), .list (good0.take 2 ++ good0.drop 3), .list (good0 ++ [.none]), .list (good0 ++ [.tuple [.int 1, .str "ends"]]), .list (good0 ++ [.list [.int 1, .str "ends", .str "a"]])] ++ odds.map fun o => .list (good0 ++ [o])
def ref12 : PyData := .tuple [.str "refused", .int 12]
def later (k : Nat) : PyData := .list (good0 ++ [row3 (20 + k) "fails" "a", row3 (20 + k) "ends" "a", row3 (20 + k + 1) "passes" "a"])
def paid0 : PyData := .list [.tuple [.int 0, .int 10, .int 9], .tuple [.int 1, .int 0, .int 0], .tuple [.int 2, .int 7, .int 8]]
set_option maxHeartbeats 0 in
theorem b_bad : (somes.all fun d => crB (run pg.T 29 "_law_ask" [.sh (.int 0), .sh job0, .sh d]) false ref12 [.int 0, job0, d] && crB (run pg.T 29 "_law_ask" [.sh (.int 1), .sh job0, .sh d]) false ref12 [.int 1, job0, d]) = true := by decide +kernel
set_option maxHeartbeats 0 in
theorem b_good : (crB (run pg.T 29 "_law_ask" [.sh (.int 0), .sh job0, .sh (.list good0)]) false (.tuple [.int 0, .int 2]) [.int 0, job0, .list good0] && crB (run pg.T 29 "_law_ask" [.sh (.int 1), .sh job0, .sh (.list good0)]) true paid0 [.int 1, job0, .list good0]) = true := by decide +kernel
set_option maxHeartbeats 0 in
theorem b_late : ((List.range 60).all fun k => crB (run pg.T 29 "_law_ask" [.sh (.int 0), .sh job0, .sh (later k)]) false (.tuple [.int ((20 + k + 1) / 20), .int 2]) [.int 0, job0, later k]) = true := by decide +kernel
theorem xs_go {cf : CT} {om : List Nat} {s : MS} {r : List MS} {ρ ρ1 : Rho} {res : MP.R Fl} (h1 : x1 cf om s ρ = .ok .nx ρ1) (h2 : xs cf om r ρ1 = res) : xs cf om (s :: r) ρ = res := by
  rw [xs_c, h1, bind_ok]
  exact h2
theorem xs_ret {cf : CT} {om : List Nat} {s : MS} {r : List MS} {ρ ρ1 : Rho} {d : PyData} {fr : Bool} (h1 : x1 cf om s ρ = .ok (.rt d fr) ρ1) : xs cf om (s :: r) ρ = .ok (.rt d fr) ρ1 := by
  rw [xs_c, h1, bind_ok]
theorem runD_of {cf : CT} {m : MDef} {as ρ0 ρ1 : Rho} {d : PyData} {fr : Bool} (h1 : argOk m.io as = true) (h2 : as ++ List.replicate (m.ns - m.io.length) .no = ρ0) (e : xs cf m.om m.body ρ0 = .ok (.rt d fr) ρ1) (h3 : outOk m.io ρ1 = true) : runD cf m as = .ok d fr (ρ1.take m.io.length) := by
  unfold runD
  rw [if_pos h1, h2, e]
  simp only [h3, if_true]
def pads0 : PyData := .tuple [.tuple [.str "a", .str "pad", .tuple [.int 0, .int 0, .int 0, .int 1, .int 1, .int 1]], .tuple [.str "b", .str "post", .tuple [.int 2, .int 0, .int 0, .int 1, .int 1, .int 1]]]
/-- the state: the draws, some, bad, day, later, and what the loop leaves -/
def ρk (ns : List Int) (k : Nat) (s5 s6 s7 s8 : Sl) : Rho := [.sh (sc ns), .mu true (tw k), .sh pads0, .sh job0, .sh (.list good0), s5, s6, s7, s8, .sh (.int 0), .sh .none, .sh (.tuple [.none, .str "begins", .str "b"]), .no]
theorem head (ns : List Int) (cf : CT) {r : List MS} {res : MP.R Fl} (h : xs cf [1, 5] r (ρk ns 0 (.mu true (.list somes)) .no .no .no) = res) : xs cf [1, 5] (m_law.body.take 7 ++ r) [.sh (sc ns), .no, .no, .no, .no, .no, .no, .no, .no, .no, .no, .no, .no] = res := by
  refine xs_go (ρ1 := [.sh (sc ns), .mu true (tw 0), .no, .no, .no, .no, .no, .no, .no, .no, .no, .no, .no]) (by kernel_rfl) ?_
  refine xs_go (ρ1 := [.sh (sc ns), .mu true (tw 0), .sh pads0, .no, .no, .no, .no, .no, .no, .no, .no, .no, .no]) (by kernel_rfl) ?_
  refine xs_go (ρ1 := [.sh (sc ns), .mu true (tw 0), .sh pads0, .sh job0, .no, .no, .no, .no, .no, .no, .no, .no, .no]) (by kernel_rfl) ?_
  refine xs_go (ρ1 := [.sh (sc ns), .mu true (tw 0), .sh pads0, .sh job0, .sh (.list good0), .no, .no, .no, .no, .no, .no, .no, .no]) (by kernel_rfl) ?_
  refine xs_go (ρ1 := [.sh (sc ns), .mu true (tw 0), .sh pads0, .sh job0, .sh (.list good0), .mu true (.list (somes.take 9)), .no, .no, .no, .no, .no, .no, .no]) (by kernel_rfl) ?_
  refine xs_go (ρ1 := [.sh (sc ns), .mu true (tw 0), .sh pads0, .sh job0, .sh (.list good0), .mu true (.list (somes.take 10)), .no, .no, .no, .no, .no, .no, .no]) (by kernel_rfl) ?_
  exact xs_go (ρ1 := ρk ns 0 (.mu true (.list somes)) .no .no .no) (by kernel_rfl) h
theorem run_law (ns : List Int) (hl : ns.length ≤ 63) : ∃ outs, run pg.T 30 "law" [.sh (sc ns)] = .ok (.bool true) false outs := by
  have hbig : big = 16777216 := rfl
  obtain ⟨d, hd, e1⟩ := r_pick hasL 25 ns 0 somes hl (by omega) (by decide +kernel)
  obtain ⟨r, r0, r1, e2⟩ := r_draw hasL 26 ns 1 60 hl (by omega) (by decide)
  obtain ⟨k, rfl⟩ := Int.eq_ofNat_of_zero_le r0
  have hk : k < 60 := by omega
  have fb := List.all_eq_true.mp b_bad d hd
  rw [Bool.and_eq_true] at fb
  have f0 := crB_ok fb.1
  have f1 := crB_ok fb.2
  have fg := b_good
  rw [Bool.and_eq_true] at fg
  have g0 := crB_ok fg.1
  have g1 := crB_ok fg.2
  have fl := crB_ok (List.all_eq_true.mp b_late k (List.mem_range.mpr hk))
  simp only [List.map_cons, List.map_nil] at f0 f1 g0 g1 fl
  have s12 : shaped (.list [ref12, ref12]) = true := by decide +kernel
  have e12 : PyData.eqv (.list [ref12, ref12]) (.list [ref12, ref12]) = true := by decide +kernel
  have sp : shaped paid0 = true := by decide +kernel
  have ep : PyData.eqv paid0 paid0 = true := by decide +kernel
  have s02 : shaped (.tuple [.int 0, .int 2]) = true := by decide +kernel
  have e02 : PyData.eqv (.tuple [.int 0, .int 2]) (.tuple [.int 0, .int 2]) = true := by decide +kernel
  rw [run_at (T := pg.T) (f := "law") (m := m_law) rfl]
  refine ⟨_, runD_of (ρ1 := ρk ns 2 (.sh (.list somes)) (.sh d) (.sh (.int (20 + k))) (.sh (later k))) rfl rfl ?_ rfl⟩
  refine head ns _ (r := m_law.body.drop 7) ?_
  -- bad
  refine xs_go (ρ1 := ρk ns 1 (.sh (.list somes)) (.sh d) .no .no) ?_ ?_
  · generalize somes = SM at *
    unfold ρk
    simp [MP.runD, MP.argOk, MP.outOk, MP.xs_nil, MP.xs_c, MP.x1_asgN, MP.x1_asgT, MP.x1_par, MP.x1_aug, MP.x1_app, MP.x1_ext, MP.x1_putT, MP.x1_retv, MP.x1_ite, MP.x1_rai, MP.x1_exp, MP.x1_pass, MP.x1_retc, MP.x1_reto, MP.x1_retb, MP.x1_rett, MP.x1_reta, MP.x1_reti, MP.x1_retp, MP.sem_c, MP.sem_v, MP.sem_g, MP.sem_op, MP.sem_ch, MP.sem_sl, MP.sem_tu, MP.sem_li, MP.sem_dn, MP.sem_bo, MP.sem_nt, MP.sem_ie, MP.sem_ca, MP.sem_cx, MP.v_cx, MP.x1_retx, MP.x1_retl, MP.x1_tryW, MP.tryR_ok, MP.tryR_ex, MP.sems_nil, MP.sems_c, MP.cp_o, MP.cp_a, MP.ls_o, MP.bind_ok, MP.bind_ex, MP.bind_st, MP.optB_some, MP.optB_none, MP.evOs_nil, MP.evOs_c, MP.evs_nil, MP.evs_c, MP.evF_nil, MP.evF_c, MP.evAs_nil, MP.evAs_c, MP.mk_v, MP.mk_o, MP.mk_a, MP.mk_t, MP.v_v, MP.v_o, MP.n_o, MP.v_a0, MP.v_a1, MP.tst_eq, MP.v_op, MP.v_ch, MP.v_sl, MP.evI, MP.v_tu, MP.v_li, MP.boS, MP.andS, MP.orS, MP.v_an, MP.v_or, MP.t_an, MP.t_or, MP.v_nt, MP.t_nt, MP.v_ie, MP.opdV, MP.valV, MP.ioV, MP.frzOk, MP.rdOs, MP.rdO, MP.rdSl, MP.prim, MP.sh_int, MP.sh_str, MP.sh_bool, MP.eqv_int, MP.eqv_str, MP.pidx_l, MP.pidx_t, MP.prim1, MP.primA, MP.primM, MP.primCmp, MP.primIn, MP.nth, MP.ixN, MP.truth, MP.tyIs, MP.sConst, MP.own2, MP.own1, MP.setSl, MP.bindTg, MP.bindTgs, MP.tgSlots, MP.tgsSlots, MP.wipeR, MP.turnC, MP.cTurn, MP.fTurn, MP.evC, MP.v_ca, MP.callR, MP.slotsOf, MP.nodup, MP.argsOf, MP.back, MP.frOp, MP.chg, MP.augI, MP.appI, MP.extI, MP.putTI, MP.evK, MP.itemsI, MP.itemsOf, MP.lockO, MP.unlockO, e1]
  refine xs_go (ρ1 := ρk ns 1 (.sh (.list somes)) (.sh d) .no .no) ?_ ?_
  · generalize somes = SM at *
    have hc : (sem (run pg.T 29) c1_law).v (ρk ns 1 (.sh (.list SM)) (.sh d) .no .no) = .ok (.list ((List.range 2).map fun _ => ref12), true) (ρk ns 1 (.sh (.list SM)) (.sh d) .no .no) := by
      refine cp_v _ _ _ _ _ _ _ (ρ1 := ρk ns 1 (.sh (.list SM)) (.sh d) .no .no) (ρ2 := ρk ns 1 (.sh (.list SM)) (.sh d) .no .no) (os := [.val (.int 2)]) (items := (List.range 2).map fun (i : Nat) => .int (0 + (i : Int))) rfl rfl rfl (compL_map fun i hi => ?_) rfl (by decide +kernel)
      have h2 : i = 0 ∨ i = 1 := by
        have := List.mem_range.mp hi
        omega
      rcases h2 with rfl | rfl
      · unfold ρk
        generalize job0 = JB at *
        simp [MP.runD, MP.argOk, MP.outOk, MP.xs_nil, MP.xs_c, MP.x1_asgN, MP.x1_asgT, MP.x1_par, MP.x1_aug, MP.x1_app, MP.x1_ext, MP.x1_putT, MP.x1_retv, MP.x1_ite, MP.x1_rai, MP.x1_exp, MP.x1_pass, MP.x1_retc, MP.x1_reto, MP.x1_retb, MP.x1_rett, MP.x1_reta, MP.x1_reti, MP.x1_retp, MP.sem_c, MP.sem_v, MP.sem_g, MP.sem_op, MP.sem_ch, MP.sem_sl, MP.sem_tu, MP.sem_li, MP.sem_dn, MP.sem_bo, MP.sem_nt, MP.sem_ie, MP.sem_ca, MP.sem_cx, MP.v_cx, MP.x1_retx, MP.x1_retl, MP.x1_tryW, MP.tryR_ok, MP.tryR_ex, MP.sems_nil, MP.sems_c, MP.cp_o, MP.cp_a, MP.ls_o, MP.bind_ok, MP.bind_ex, MP.bind_st, MP.optB_some, MP.optB_none, MP.evOs_nil, MP.evOs_c, MP.evs_nil, MP.evs_c, MP.evF_nil, MP.evF_c, MP.evAs_nil, MP.evAs_c, MP.mk_v, MP.mk_o, MP.mk_a, MP.mk_t, MP.v_v, MP.v_o, MP.n_o, MP.v_a0, MP.v_a1, MP.tst_eq, MP.v_op, MP.v_ch, MP.v_sl, MP.evI, MP.v_tu, MP.v_li, MP.boS, MP.andS, MP.orS, MP.v_an, MP.v_or, MP.t_an, MP.t_or, MP.v_nt, MP.t_nt, MP.v_ie, MP.opdV, MP.valV, MP.ioV, MP.frzOk, MP.rdOs, MP.rdO, MP.rdSl, MP.prim, MP.sh_int, MP.sh_str, MP.sh_bool, MP.eqv_int, MP.eqv_str, MP.pidx_l, MP.pidx_t, MP.prim1, MP.primA, MP.primM, MP.primCmp, MP.primIn, MP.nth, MP.ixN, MP.truth, MP.tyIs, MP.sConst, MP.own2, MP.own1, MP.setSl, MP.bindTg, MP.bindTgs, MP.tgSlots, MP.tgsSlots, MP.wipeR, MP.turnC, MP.cTurn, MP.fTurn, MP.evC, MP.v_ca, MP.callR, MP.slotsOf, MP.nodup, MP.argsOf, MP.back, MP.frOp, MP.chg, MP.augI, MP.appI, MP.extI, MP.putTI, MP.evK, MP.itemsI, MP.itemsOf, MP.lockO, MP.unlockO, f0]
      · unfold ρk
        generalize job0 = JB at *
        simp [MP.runD, MP.argOk, MP.outOk, MP.xs_nil, MP.xs_c, MP.x1_asgN, MP.x1_asgT, MP.x1_par, MP.x1_aug, MP.x1_app, MP.x1_ext, MP.x1_putT, MP.x1_retv, MP.x1_ite, MP.x1_rai, MP.x1_exp, MP.x1_pass, MP.x1_retc, MP.x1_reto, MP.x1_retb, MP.x1_rett, MP.x1_reta, MP.x1_reti, MP.x1_retp, MP.sem_c, MP.sem_v, MP.sem_g, MP.sem_op, MP.sem_ch, MP.sem_sl, MP.sem_tu, MP.sem_li, MP.sem_dn, MP.sem_bo, MP.sem_nt, MP.sem_ie, MP.sem_ca, MP.sem_cx, MP.v_cx, MP.x1_retx, MP.x1_retl, MP.x1_tryW, MP.tryR_ok, MP.tryR_ex, MP.sems_nil, MP.sems_c, MP.cp_o, MP.cp_a, MP.ls_o, MP.bind_ok, MP.bind_ex, MP.bind_st, MP.optB_some, MP.optB_none, MP.evOs_nil, MP.evOs_c, MP.evs_nil, MP.evs_c, MP.evF_nil, MP.evF_c, MP.evAs_nil, MP.evAs_c, MP.mk_v, MP.mk_o, MP.mk_a, MP.mk_t, MP.v_v, MP.v_o, MP.n_o, MP.v_a0, MP.v_a1, MP.tst_eq, MP.v_op, MP.v_ch, MP.v_sl, MP.evI, MP.v_tu, MP.v_li, MP.boS, MP.andS, MP.orS, MP.v_an, MP.v_or, MP.t_an, MP.t_or, MP.v_nt, MP.t_nt, MP.v_ie, MP.opdV, MP.valV, MP.ioV, MP.frzOk, MP.rdOs, MP.rdO, MP.rdSl, MP.prim, MP.sh_int, MP.sh_str, MP.sh_bool, MP.eqv_int, MP.eqv_str, MP.pidx_l, MP.pidx_t, MP.prim1, MP.primA, MP.primM, MP.primCmp, MP.primIn, MP.nth, MP.ixN, MP.truth, MP.tyIs, MP.sConst, MP.own2, MP.own1, MP.setSl, MP.bindTg, MP.bindTgs, MP.tgSlots, MP.tgsSlots, MP.wipeR, MP.turnC, MP.cTurn, MP.fTurn, MP.evC, MP.v_ca, MP.callR, MP.slotsOf, MP.nodup, MP.argsOf, MP.back, MP.frOp, MP.chg, MP.augI, MP.appI, MP.extI, MP.putTI, MP.evK, MP.itemsI, MP.itemsOf, MP.lockO, MP.unlockO, f1]
    have hR : (List.range 2).map (fun _ => ref12) = [ref12, ref12] := rfl
    rw [hR] at hc
    have sm2 : small 2 = true := by decide +kernel
    have rp : repD [ref12] 2 = [ref12, ref12] := rfl
    unfold ref12 at *
    simp [MP.runD, MP.argOk, MP.outOk, MP.xs_nil, MP.xs_c, MP.x1_asgN, MP.x1_asgT, MP.x1_par, MP.x1_aug, MP.x1_app, MP.x1_ext, MP.x1_putT, MP.x1_retv, MP.x1_ite, MP.x1_rai, MP.x1_exp, MP.x1_pass, MP.x1_retc, MP.x1_reto, MP.x1_retb, MP.x1_rett, MP.x1_reta, MP.x1_reti, MP.x1_retp, MP.sem_c, MP.sem_v, MP.sem_g, MP.sem_op, MP.sem_ch, MP.sem_sl, MP.sem_tu, MP.sem_li, MP.sem_dn, MP.sem_bo, MP.sem_nt, MP.sem_ie, MP.sem_ca, MP.sem_cx, MP.v_cx, MP.x1_retx, MP.x1_retl, MP.x1_tryW, MP.tryR_ok, MP.tryR_ex, MP.sems_nil, MP.sems_c, MP.cp_o, MP.cp_a, MP.ls_o, MP.bind_ok, MP.bind_ex, MP.bind_st, MP.optB_some, MP.optB_none, MP.evOs_nil, MP.evOs_c, MP.evs_nil, MP.evs_c, MP.evF_nil, MP.evF_c, MP.evAs_nil, MP.evAs_c, MP.mk_v, MP.mk_o, MP.mk_a, MP.mk_t, MP.v_v, MP.v_o, MP.n_o, MP.v_a0, MP.v_a1, MP.tst_eq, MP.v_op, MP.v_ch, MP.v_sl, MP.evI, MP.v_tu, MP.v_li, MP.boS, MP.andS, MP.orS, MP.v_an, MP.v_or, MP.t_an, MP.t_or, MP.v_nt, MP.t_nt, MP.v_ie, MP.opdV, MP.valV, MP.ioV, MP.frzOk, MP.rdOs, MP.rdO, MP.rdSl, MP.prim, MP.sh_int, MP.sh_str, MP.sh_bool, MP.eqv_int, MP.eqv_str, MP.pidx_l, MP.pidx_t, MP.prim1, MP.primA, MP.primM, MP.primCmp, MP.primIn, MP.nth, MP.ixN, MP.truth, MP.tyIs, MP.sConst, MP.own2, MP.own1, MP.setSl, MP.bindTg, MP.bindTgs, MP.tgSlots, MP.tgsSlots, MP.wipeR, MP.turnC, MP.cTurn, MP.fTurn, MP.evC, MP.v_ca, MP.callR, MP.slotsOf, MP.nodup, MP.argsOf, MP.back, MP.frOp, MP.chg, MP.augI, MP.appI, MP.extI, MP.putTI, MP.evK, MP.itemsI, MP.itemsOf, MP.lockO, MP.unlockO, c1_law_o, hc, s12, e12, hbig, sm2, rp]
  refine xs_go (ρ1 := ρk ns 1 (.sh (.list somes)) (.sh d) .no .no) ?_ ?_
  · generalize somes = SM at *
    unfold paid0 at *
    unfold ρk
    simp [MP.runD, MP.argOk, MP.outOk, MP.xs_nil, MP.xs_c, MP.x1_asgN, MP.x1_asgT, MP.x1_par, MP.x1_aug, MP.x1_app, MP.x1_ext, MP.x1_putT, MP.x1_retv, MP.x1_ite, MP.x1_rai, MP.x1_exp, MP.x1_pass, MP.x1_retc, MP.x1_reto, MP.x1_retb, MP.x1_rett, MP.x1_reta, MP.x1_reti, MP.x1_retp, MP.sem_c, MP.sem_v, MP.sem_g, MP.sem_op, MP.sem_ch, MP.sem_sl, MP.sem_tu, MP.sem_li, MP.sem_dn, MP.sem_bo, MP.sem_nt, MP.sem_ie, MP.sem_ca, MP.sem_cx, MP.v_cx, MP.x1_retx, MP.x1_retl, MP.x1_tryW, MP.tryR_ok, MP.tryR_ex, MP.sems_nil, MP.sems_c, MP.cp_o, MP.cp_a, MP.ls_o, MP.bind_ok, MP.bind_ex, MP.bind_st, MP.optB_some, MP.optB_none, MP.evOs_nil, MP.evOs_c, MP.evs_nil, MP.evs_c, MP.evF_nil, MP.evF_c, MP.evAs_nil, MP.evAs_c, MP.mk_v, MP.mk_o, MP.mk_a, MP.mk_t, MP.v_v, MP.v_o, MP.n_o, MP.v_a0, MP.v_a1, MP.tst_eq, MP.v_op, MP.v_ch, MP.v_sl, MP.evI, MP.v_tu, MP.v_li, MP.boS, MP.andS, MP.orS, MP.v_an, MP.v_or, MP.t_an, MP.t_or, MP.v_nt, MP.t_nt, MP.v_ie, MP.opdV, MP.valV, MP.ioV, MP.frzOk, MP.rdOs, MP.rdO, MP.rdSl, MP.prim, MP.sh_int, MP.sh_str, MP.sh_bool, MP.eqv_int, MP.eqv_str, MP.pidx_l, MP.pidx_t, MP.prim1, MP.primA, MP.primM, MP.primCmp, MP.primIn, MP.nth, MP.ixN, MP.truth, MP.tyIs, MP.sConst, MP.own2, MP.own1, MP.setSl, MP.bindTg, MP.bindTgs, MP.tgSlots, MP.tgsSlots, MP.wipeR, MP.turnC, MP.cTurn, MP.fTurn, MP.evC, MP.v_ca, MP.callR, MP.slotsOf, MP.nodup, MP.argsOf, MP.back, MP.frOp, MP.chg, MP.augI, MP.appI, MP.extI, MP.putTI, MP.evK, MP.itemsI, MP.itemsOf, MP.lockO, MP.unlockO, g0, g1, sp, ep, s02, e02, hbig]
  refine xs_go (ρ1 := ρk ns 2 (.sh (.list somes)) (.sh d) (.sh (.int (20 + k))) .no) ?_ ?_
  · generalize somes = SM at *
    unfold ρk
    simp [MP.runD, MP.argOk, MP.outOk, MP.xs_nil, MP.xs_c, MP.x1_asgN, MP.x1_asgT, MP.x1_par, MP.x1_aug, MP.x1_app, MP.x1_ext, MP.x1_putT, MP.x1_retv, MP.x1_ite, MP.x1_rai, MP.x1_exp, MP.x1_pass, MP.x1_retc, MP.x1_reto, MP.x1_retb, MP.x1_rett, MP.x1_reta, MP.x1_reti, MP.x1_retp, MP.sem_c, MP.sem_v, MP.sem_g, MP.sem_op, MP.sem_ch, MP.sem_sl, MP.sem_tu, MP.sem_li, MP.sem_dn, MP.sem_bo, MP.sem_nt, MP.sem_ie, MP.sem_ca, MP.sem_cx, MP.v_cx, MP.x1_retx, MP.x1_retl, MP.x1_tryW, MP.tryR_ok, MP.tryR_ex, MP.sems_nil, MP.sems_c, MP.cp_o, MP.cp_a, MP.ls_o, MP.bind_ok, MP.bind_ex, MP.bind_st, MP.optB_some, MP.optB_none, MP.evOs_nil, MP.evOs_c, MP.evs_nil, MP.evs_c, MP.evF_nil, MP.evF_c, MP.evAs_nil, MP.evAs_c, MP.mk_v, MP.mk_o, MP.mk_a, MP.mk_t, MP.v_v, MP.v_o, MP.n_o, MP.v_a0, MP.v_a1, MP.tst_eq, MP.v_op, MP.v_ch, MP.v_sl, MP.evI, MP.v_tu, MP.v_li, MP.boS, MP.andS, MP.orS, MP.v_an, MP.v_or, MP.t_an, MP.t_or, MP.v_nt, MP.t_nt, MP.v_ie, MP.opdV, MP.valV, MP.ioV, MP.frzOk, MP.rdOs, MP.rdO, MP.rdSl, MP.prim, MP.sh_int, MP.sh_str, MP.sh_bool, MP.eqv_int, MP.eqv_str, MP.pidx_l, MP.pidx_t, MP.prim1, MP.primA, MP.primM, MP.primCmp, MP.primIn, MP.nth, MP.ixN, MP.truth, MP.tyIs, MP.sConst, MP.own2, MP.own1, MP.setSl, MP.bindTg, MP.bindTgs, MP.tgSlots, MP.tgsSlots, MP.wipeR, MP.turnC, MP.cTurn, MP.fTurn, MP.evC, MP.v_ca, MP.callR, MP.slotsOf, MP.nodup, MP.argsOf, MP.back, MP.frOp, MP.chg, MP.augI, MP.appI, MP.extI, MP.putTI, MP.evK, MP.itemsI, MP.itemsOf, MP.lockO, MP.unlockO, e2]
  refine xs_go (ρ1 := ρk ns 2 (.sh (.list somes)) (.sh d) (.sh (.int (20 + k))) (.sh (later k))) ?_ (xs_ret ?_)
  · generalize somes = SM at *
    unfold ρk later row3 good0
    simp [MP.runD, MP.argOk, MP.outOk, MP.xs_nil, MP.xs_c, MP.x1_asgN, MP.x1_asgT, MP.x1_par, MP.x1_aug, MP.x1_app, MP.x1_ext, MP.x1_putT, MP.x1_retv, MP.x1_ite, MP.x1_rai, MP.x1_exp, MP.x1_pass, MP.x1_retc, MP.x1_reto, MP.x1_retb, MP.x1_rett, MP.x1_reta, MP.x1_reti, MP.x1_retp, MP.sem_c, MP.sem_v, MP.sem_g, MP.sem_op, MP.sem_ch, MP.sem_sl, MP.sem_tu, MP.sem_li, MP.sem_dn, MP.sem_bo, MP.sem_nt, MP.sem_ie, MP.sem_ca, MP.sem_cx, MP.v_cx, MP.x1_retx, MP.x1_retl, MP.x1_tryW, MP.tryR_ok, MP.tryR_ex, MP.sems_nil, MP.sems_c, MP.cp_o, MP.cp_a, MP.ls_o, MP.bind_ok, MP.bind_ex, MP.bind_st, MP.optB_some, MP.optB_none, MP.evOs_nil, MP.evOs_c, MP.evs_nil, MP.evs_c, MP.evF_nil, MP.evF_c, MP.evAs_nil, MP.evAs_c, MP.mk_v, MP.mk_o, MP.mk_a, MP.mk_t, MP.v_v, MP.v_o, MP.n_o, MP.v_a0, MP.v_a1, MP.tst_eq, MP.v_op, MP.v_ch, MP.v_sl, MP.evI, MP.v_tu, MP.v_li, MP.boS, MP.andS, MP.orS, MP.v_an, MP.v_or, MP.t_an, MP.t_or, MP.v_nt, MP.t_nt, MP.v_ie, MP.opdV, MP.valV, MP.ioV, MP.frzOk, MP.rdOs, MP.rdO, MP.rdSl, MP.prim, MP.sh_int, MP.sh_str, MP.sh_bool, MP.eqv_int, MP.eqv_str, MP.pidx_l, MP.pidx_t, MP.prim1, MP.primA, MP.primM, MP.primCmp, MP.primIn, MP.nth, MP.ixN, MP.truth, MP.tyIs, MP.sConst, MP.own2, MP.own1, MP.setSl, MP.bindTg, MP.bindTgs, MP.tgSlots, MP.tgsSlots, MP.wipeR, MP.turnC, MP.cTurn, MP.fTurn, MP.evC, MP.v_ca, MP.callR, MP.slotsOf, MP.nodup, MP.argsOf, MP.back, MP.frOp, MP.chg, MP.augI, MP.appI, MP.extI, MP.putTI, MP.evK, MP.itemsI, MP.itemsOf, MP.lockO, MP.unlockO, hbig]
  · generalize somes = SM at *
    have sq : shaped (.tuple [.int ((20 + (k : Int) + 1) / 20), .int 2]) = true := by simp [shaped, PyData.canLay0, PyData.canLayAll0, PyData.depth, PyData.depthAll]
    have eq : PyData.eqv (.tuple [.int ((20 + (k : Int) + 1) / 20), .int 2]) (.tuple [.int ((20 + (k : Int) + 1) / 20), .int 2]) = true := by simp [PyData.eqv, PyData.eqvAll]
    unfold ρk
    generalize later k = LT at *
    generalize job0 = JB at *
    simp [MP.runD, MP.argOk, MP.outOk, MP.xs_nil, MP.xs_c, MP.x1_asgN, MP.x1_asgT, MP.x1_par, MP.x1_aug, MP.x1_app, MP.x1_ext, MP.x1_putT, MP.x1_retv, MP.x1_ite, MP.x1_rai, MP.x1_exp, MP.x1_pass, MP.x1_retc, MP.x1_reto, MP.x1_retb, MP.x1_rett, MP.x1_reta, MP.x1_reti, MP.x1_retp, MP.sem_c, MP.sem_v, MP.sem_g, MP.sem_op, MP.sem_ch, MP.sem_sl, MP.sem_tu, MP.sem_li, MP.sem_dn, MP.sem_bo, MP.sem_nt, MP.sem_ie, MP.sem_ca, MP.sem_cx, MP.v_cx, MP.x1_retx, MP.x1_retl, MP.x1_tryW, MP.tryR_ok, MP.tryR_ex, MP.sems_nil, MP.sems_c, MP.cp_o, MP.cp_a, MP.ls_o, MP.bind_ok, MP.bind_ex, MP.bind_st, MP.optB_some, MP.optB_none, MP.evOs_nil, MP.evOs_c, MP.evs_nil, MP.evs_c, MP.evF_nil, MP.evF_c, MP.evAs_nil, MP.evAs_c, MP.mk_v, MP.mk_o, MP.mk_a, MP.mk_t, MP.v_v, MP.v_o, MP.n_o, MP.v_a0, MP.v_a1, MP.tst_eq, MP.v_op, MP.v_ch, MP.v_sl, MP.evI, MP.v_tu, MP.v_li, MP.boS, MP.andS, MP.orS, MP.v_an, MP.v_or, MP.t_an, MP.t_or, MP.v_nt, MP.t_nt, MP.v_ie, MP.opdV, MP.valV, MP.ioV, MP.frzOk, MP.rdOs, MP.rdO, MP.rdSl, MP.prim, MP.sh_int, MP.sh_str, MP.sh_bool, MP.eqv_int, MP.eqv_str, MP.pidx_l, MP.pidx_t, MP.prim1, MP.primA, MP.primM, MP.primCmp, MP.primIn, MP.nth, MP.ixN, MP.truth, MP.tyIs, MP.sConst, MP.own2, MP.own1, MP.setSl, MP.bindTg, MP.bindTgs, MP.tgSlots, MP.tgsSlots, MP.wipeR, MP.turnC, MP.cTurn, MP.fTurn, MP.evC, MP.v_ca, MP.callR, MP.slotsOf, MP.nodup, MP.argsOf, MP.back, MP.frOp, MP.chg, MP.augI, MP.appI, MP.extI, MP.putTI, MP.evK, MP.itemsI, MP.itemsOf, MP.lockO, MP.unlockO, fl, sq, eq, hbig]
theorem plain (ns : List Int) (h : ns.length ≤ 63) : ∃ fr outs, run pg.T 30 "law" [.sh (.list (ns.map .int))] = .ok (.bool true) fr outs := by
  obtain ⟨outs, e⟩ := run_law ns h
  exact ⟨false, outs, e⟩
theorem mem_law : d_law ∈ pg.defs := by simp [pg]
end LW
end
section
set_option Elab.async false
set_option linter.all false
set_option maxRecDepth 100000
set_option maxHeartbeats 0
open PySem.W PySem PyProof.Rows PySem.Calls
theorem PySem.Challenge.cw_siteworks_k19_logs_refused_holds : PySem.Challenge.rw_siteworks_k19_logs_refused.Holds := by
  w_on; o_law
  refine HandSHeadRun.head_any (r := OpenLaw.row PySem.Challenge.rw_siteworks_k19_logs_refused) (q := view (OpenLaw.row PySem.Challenge.rw_siteworks_k19_logs_refused).prog [69]) (H := LW.hk) (ob := LW.ob) (M := 30000) (loose := LW.names) (d := HandSHeadRun.topDef (OpenLaw.row PySem.Challenge.rw_siteworks_k19_logs_refused).prog 69) (kwd := []) LW.ob_eq
    (by kernel_rfl) (fun s => by kernel_rfl) LW.hrun (by kernel_rfl) (by kernel_rfl) (by kernel_rfl) (by rfl) (by first | assumption | decide +kernel) (by decide +kernel) ⟨rfl, rfl, rfl, rfl, rfl, by decide +kernel⟩ ?hw ?hc
  case hw => w_witness2
  case hc =>
    refine MP.walk_ofX (l := PySem.Challenge.rw_siteworks_k19_logs_refused) (n := 63) (k := 30) (x := "script") rfl (by decide) (by kernel_rfl) ⟨rfl, by decide, by decide⟩ ?F
    intro w mg fa h Y G hmg0
    obtain ⟨K, KX, c⟩ := Y
    have hmg : mg LW.d_law.name = some (.ref fa) := by
      have e : (HandSHeadRun.topDef (OpenLaw.row PySem.Challenge.rw_siteworks_k19_logs_refused).prog 69).name = LW.d_law.name := by kernel_rfl
      rw [← e]
      exact hmg0
    exact MP.law_F LW.mem_law rfl LW.plain LW.nd LW.chk LW.cw LW.bnd KX G c hmg
end
